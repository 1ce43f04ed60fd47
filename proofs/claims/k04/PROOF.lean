import PyProof.Rows.All
import Wide.All
import OpenK.AllK
import Wide.FinOn
import HandS.ForMost
import HandS.Star
import KE.SortData
import KE.KDictKeyed
import HandS.Lambda
import HandS.Strs
import HandS.TupSets
import HandS.TupAny
import HandS.TupMul
import HandS.Style
import HandS.Flow
import PyProof.Rows.RuleB_pow
import HandS.Deep
import PyProof.Rows.InDataRows
import HandS.NoneIn
import KE.GoesNew
import HandS.Iter
import HandS.Comp
import HandS.List
import HandS.Dict
import HandS.More
import HandS.Small
import HandS.Codes
import HandS.CallLocal
import HandS.Defaults
import HandS.IsInst
import HandS.WordsDict
import HandS.Conv
import HandS.TupLen
import KE.KUnpackStar
import HandS.Set
import KE.KSetDisp
import HandS.ForExc
import HandS.ExcOwn
import HandS.ExcField
import HandS.ExcInit
import HandS.RaiseMore
import KE.KExcInit
import HandS.TryMany
import PyProof.ReprReads
import PyProof.ReprRoads
import HandS.MakeKwOnly
import PyProof.Rows.RuleB_mul
import HandS.EndTab
import HandS.HeadHook1
import HandS.HeadHook2
import HandS.HeadHook3
import HandS.HeadHook4
import HandS.HeadWalk
import HandS.Head2
import PySem.Challenge.RW_pacewide_k04_refusals_of_spans
set_option Elab.async false
set_option linter.all false
set_option maxRecDepth 100000
set_option maxHeartbeats 0
/-! PI0: the law's own: its tables of code objects. -/
namespace PI
open PySem PySem.Spec
/-- the tables of code objects of defs that make lambdas; the names of those -/
def tabT : List (Addr × Str) := [(645, "_law_right.<locals>.<lambda>"), (652, "law.<locals>.<lambda>")]
end PI
/-! PI1: plain values, their places on the abstract heap, the state's relation. -/
namespace PI
open PySem PySem.Spec L2

abbrev P := PyData
/-- what a name, an expression holds: data, a set, a handle of a drawn list, a def, the script -/
inductive SV where
  | d (p : P)
  | s (ps : List P)
  | h (n : Nat)
  | f (x : Str)
  | z (ns : List Int)

abbrev Slots := List (Option SV)
structure W where
  own : List Nat
  sto : List (List Int)

/-! ### where data stand -/
def keyP : Key → P
  | .inl i => .int i
  | .inr x => .str x
/-- a dict whose keys are tuples: the entries as they lie -/
def NDict (Pr : Program) (w : World) (a : Addr) (xs : List (NestedKey × Addr × V)) : HO := .ext fun h =>
  ∃ us : List (NestedKey × Addr × Value), Paired (fun p q => p.1 = q.1 ∧ p.2.1 = q.2.1 ∧ RelV p.2.2 q.2.2) xs us ∧
    (a == sysModules) = false ∧ ∃ o es ep, h.get? a = some o ∧ o.ExactDict ∧ o.data = .dict es ep ∧ es.toList = us.map (entryOfKey (nestedKind Pr w)) ∧ (us.map (·.1)).Nodup
mutual
def nkP : NestedKey → P
  | .none => .none
  | .num i => .int i
  | .text x => .str x
  | .tup ks => .tuple (nkPs ks)
def nkPs : List NestedKey → List P
  | [] => []
  | k :: ks => nkP k :: nkPs ks
end

/-- what the abstract heap is read by: the written part, the program's text, its world, the module's names -/
structure Gd where
  K : PySem.W.Frag
  prog : Program
  w : World
  mg : Str → Option Value

/-- a tuple: a tracked one, or one of the written part -/
def TupAt (K : PySem.W.Frag) (H : Hp) (a : Addr) (xs : List V) : Prop := H a = some (.tup xs) ∨
  ∃ (o : Obj) (its : Array Value) (n : Nat), K.lookup a = some o ∧ o.cls = .type "tuple" ∧ o.data = .seq its n ∧ its.size ≤ sizeLine ∧ Vals xs its.toList
theorem TupAt.sq {K : PySem.W.Frag} {H : Hp} {a : Addr} {xs : List V} (h : TupAt K H a xs) : SqT K H a xs := h.elim (fun h => .inl (.inl h)) .inr
/-- a dict's object -/
def DicO (G : Gd) (a : Addr) (u : HO) (kvs : List (P × P)) (ks vs : List V) : Prop :=
  (∃ ls : List (Key × V), u = .dK ls ∧ kvs.map (·.1) = ls.map (fun q => keyP q.1) ∧ ks = ls.map (fun q => kV q.1) ∧ vs = ls.map (·.2)) ∨
  (∃ xs : List (NestedKey × Addr × V), u = NDict G.prog G.w a xs ∧ kvs.map (·.1) = xs.map (fun q => nkP q.1) ∧ ks = xs.map (fun q => V.ref q.2.1) ∧ vs = xs.map (·.2.2) ∧ ∀ q ∈ xs, q.1.depth ≤ 8)
mutual
/-- p stands as v, no list or dict of it at an address of O -/
def Rep (G : Gd) (H : Hp) (O : Addr → Prop) : P → V → Prop
  | .none, v => v = .non
  | .bool b, v => v = .bl b
  | .int i, v => v = .int i
  | .str x, v => v = .str x
  | .list ds, v => ∃ a xs, v = .ref a ∧ ¬ O a ∧ H a = some (.lst xs) ∧ Reps G H O ds xs
  | .tuple ds, v => ∃ a xs, v = .ref a ∧ TupAt G.K H a xs ∧ Reps G H O ds xs
  | .dict kvs, v => ∃ a ks vs u, v = .ref a ∧ ¬ O a ∧ Rd H a u ∧ DicO G a u kvs ks vs ∧ RepKs G H O kvs ks ∧ RepVs G H O kvs vs
def Reps (G : Gd) (H : Hp) (O : Addr → Prop) : List P → List V → Prop
  | [], xs => xs = []
  | d :: ds, xs => ∃ x r, xs = x :: r ∧ Rep G H O d x ∧ Reps G H O ds r
def RepKs (G : Gd) (H : Hp) (O : Addr → Prop) : List (P × P) → List V → Prop
  | [], xs => xs = []
  | (k, _) :: r, xs => ∃ x ys, xs = x :: ys ∧ Rep G H O k x ∧ RepKs G H O r ys
def RepVs (G : Gd) (H : Hp) (O : Addr → Prop) : List (P × P) → List V → Prop
  | [], xs => xs = []
  | (_, d) :: r, xs => ∃ x ys, xs = x :: ys ∧ Rep G H O d x ∧ RepVs G H O r ys
end

/-! ### tables of code objects -/
abbrev NT (u : HO) : Prop := ∀ ps, u ≠ .tbl ps
abbrev NC (u : HO) : Prop := ∀ c q, u ≠ LamX.CodeO c q
abbrev Tb (H : Hp) : Prop := LamX.Tabs tabT H
/-- what may be written -/
def Plain (u : HO) : Prop := (∀ xs, u ≠ .tup xs) ∧ (∀ o xs, u ≠ .frz o xs) ∧ NT u ∧ NC u
theorem codeO_lst {xs : List V} : NC (.lst xs) := fun c q z => by unfold LamX.CodeO at z; cases z
theorem codeO_dK {xs : List (Key × V)} : NC (.dK xs) := fun c q z => by unfold LamX.CodeO at z; cases z
/-- of a heap of records it tells nothing -/
theorem nc_ext {φ : Heap → Prop} (h : ∀ h' : Heap, (∀ a o, h'.get? a = some o → ∃ vs, o.data = .fields vs) → ¬ φ h') : NC (.ext φ) := fun c q z => by
  unfold LamX.CodeO at z
  injection z with z
  let ob : Obj := { cls := .none, data := .fields #[.none, .str q 0] }
  let hp : Heap := { objs := Array.replicate (c + 1) ob }
  have get : ∀ a, a < c + 1 → hp.get? a = some ob := fun a ha => by
    show (match (Array.replicate (c + 1) ob)[a]? with | some ⟨_, _, .freed, _⟩ => none | o => o) = some ob
    rw [Array.getElem?_replicate, if_pos ha]
  refine h hp (fun a o e => ?_) (by rw [z]; exact ⟨ob, #[.none, .str q 0], 0, get c (Nat.lt_succ_self c), rfl, rfl⟩)
  by_cases ha : a < c + 1
  · rw [get a ha] at e
    cases e
    exact ⟨_, rfl⟩
  · have e2 : (match (Array.replicate (c + 1) ob)[a]? with | some ⟨_, _, .freed, _⟩ => none | o => o) = some o := e
    rw [Array.getElem?_replicate, if_neg ha] at e2
    cases e2
theorem plain_lst {xs : List V} : Plain (.lst xs) := ⟨fun _ z => (nomatch z), fun _ _ z => (nomatch z), fun _ z => (nomatch z), codeO_lst⟩
theorem plain_dK {xs : List (Key × V)} : Plain (.dK xs) := ⟨fun _ z => (nomatch z), fun _ _ z => (nomatch z), fun _ z => (nomatch z), codeO_dK⟩
theorem plain_ext {φ : Heap → Prop} (h : ∀ h' : Heap, (∀ a o, h'.get? a = some o → ∃ vs, o.data = .fields vs) → ¬ φ h') : Plain (.ext φ) := ⟨fun _ z => (nomatch z), fun _ _ z => (nomatch z), fun _ z => (nomatch z), nc_ext h⟩
theorem plain_nd {Pr : Program} {w : World} {a : Addr} {xs : List (NestedKey × Addr × V)} : Plain (NDict Pr w a xs) := plain_ext fun h' hf ⟨_, _, _, o, es, ep, e1, _, e2, _⟩ => by
  obtain ⟨vs, e3⟩ := hf a o e1
  rw [e2] at e3; cases e3
theorem tb_same {H H' : Hp} (s : ∀ b o, H b = some o → H' b = some o) (t : Tb H) : Tb H' := LamX.Tabs.ext t s
/-- what is written is no table, no code object -/
theorem tb_upd {H : Hp} {a : Addr} {u u' : HO} (hu : H a = some u) (h1 : NT u) (h2 : NC u) (t : Tb H) : Tb (upd H a u') := fun p hp => by
  obtain ⟨ps, e1, e2, e3⟩ := t p hp
  have n1 : p.1 ≠ a := fun z => by rw [z, hu] at e1; cases e1; exact h1 _ rfl
  refine ⟨ps, by rw [upd_ne n1]; exact e1, e2, fun pos cv hc => ?_⟩
  obtain ⟨c, q1, q2⟩ := e3 pos cv hc
  exact ⟨c, q1, by rw [upd_ne (fun z => by rw [z, hu] at q2; cases q2; exact h2 _ _ rfl)]; exact q2⟩

/-- all that isn't of O stays, and isn't of O' -/
structure Keep (O : Addr → Prop) (H : Hp) (O' : Addr → Prop) (H' : Hp) : Prop where
  same : ∀ a u, ¬ O a → H a = some u → NT u → H' a = some u
  tup : ∀ a xs, H a = some (.tup xs) → H' a = some (.tup xs)
  frz : ∀ a o xs, H a = some (.frz o (.lst xs)) → H' a = some (.frz o (.lst xs))
  out : ∀ a u, ¬ O a → H a = some u → ¬ O' a
  tbl : ∀ a ps, H a = some (.tbl ps) → ∃ qs, H' a = some (.tbl qs)
  tb : Tb H → Tb H'
theorem isT (u : HO) : NT u ∨ ∃ ps, u = .tbl ps := by
  cases u with
  | tbl ps => exact .inr ⟨ps, rfl⟩
  | _ => exact .inl fun ps z => by cases z
/-- what is tracked stays tracked -/
theorem Keep.any {O O' : Addr → Prop} {H H' : Hp} (k : Keep O H O' H') {a : Addr} {u : HO} (n : ¬ O a) (e : H a = some u) : ∃ u', H' a = some u' := by
  rcases isT u with h | ⟨ps, rfl⟩
  · exact ⟨u, k.same a u n e h⟩
  · obtain ⟨qs, q⟩ := k.tbl a ps e
    exact ⟨_, q⟩
theorem dicO_nt {G : Gd} {a : Addr} {u : HO} {kvs : List (P × P)} {ks vs : List V} (h : DicO G a u kvs ks vs) : NT u := by
  rcases h with ⟨ls, rfl, _⟩ | ⟨xs, rfl, _⟩
  · exact fun ps z => by cases z
  · exact fun ps z => by unfold NDict at z; cases z
theorem Keep.rd {O O' : Addr → Prop} {H H' : Hp} (k : Keep O H O' H') {a : Addr} {u : HO} (hu : NT u) (n : ¬ O a) (r : Rd H a u) : Rd H' a u ∧ ¬ O' a := by
  rcases r with r | ⟨o, r⟩
  · exact ⟨.inl (k.same _ _ n r hu), k.out _ _ n r⟩
  · exact ⟨.inr ⟨o, k.same _ _ n r (fun ps z => by cases z)⟩, k.out _ _ n r⟩
theorem Keep.tupAt {O O' : Addr → Prop} {H H' : Hp} (k : Keep O H O' H') {K : PySem.W.Frag} {a : Addr} {xs : List V} (h : TupAt K H a xs) : TupAt K H' a xs := h.elim (fun h => .inl (k.tup _ _ h)) .inr

section
variable {G : Gd} {H H' : Hp} {O O' : Addr → Prop}
mutual
theorem Rep.keep (k : Keep O H O' H') : ∀ (p : P) (v : V), Rep G H O p v → Rep G H' O' p v
  | .none, v, h => by rw [Rep] at h ⊢; exact h
  | .bool b, v, h => by rw [Rep] at h ⊢; exact h
  | .int i, v, h => by rw [Rep] at h ⊢; exact h
  | .str x, v, h => by rw [Rep] at h ⊢; exact h
  | .list ds, v, h => by
    rw [Rep] at h ⊢
    obtain ⟨a, xs, e, n, r, q⟩ := h
    exact ⟨a, xs, e, k.out _ _ n r, k.same _ _ n r (fun ps z => by cases z), Reps.keep k ds xs q⟩
  | .tuple ds, v, h => by
    rw [Rep] at h ⊢
    obtain ⟨a, xs, e, r, q⟩ := h
    exact ⟨a, xs, e, k.tupAt r, Reps.keep k ds xs q⟩
  | .dict kvs, v, h => by
    rw [Rep] at h ⊢
    obtain ⟨a, ks, vs, u, e, n, r, d, q1, q2⟩ := h
    obtain ⟨r', n'⟩ := k.rd (dicO_nt d) n r
    exact ⟨a, ks, vs, u, e, n', r', d, RepKs.keep k kvs ks q1, RepVs.keep k kvs vs q2⟩
theorem Reps.keep (k : Keep O H O' H') : ∀ (ps : List P) (vs : List V), Reps G H O ps vs → Reps G H' O' ps vs
  | [], vs, h => by rw [Reps] at h ⊢; exact h
  | p :: ps, vs, h => by
    rw [Reps] at h ⊢
    obtain ⟨x, r, e, h1, h2⟩ := h
    exact ⟨x, r, e, Rep.keep k p x h1, Reps.keep k ps r h2⟩
theorem RepKs.keep (k : Keep O H O' H') : ∀ (ps : List (P × P)) (vs : List V), RepKs G H O ps vs → RepKs G H' O' ps vs
  | [], vs, h => by rw [RepKs] at h ⊢; exact h
  | (p, _) :: ps, vs, h => by
    rw [RepKs] at h ⊢
    obtain ⟨x, r, e, h1, h2⟩ := h
    exact ⟨x, r, e, Rep.keep k p x h1, RepKs.keep k ps r h2⟩
theorem RepVs.keep (k : Keep O H O' H') : ∀ (ps : List (P × P)) (vs : List V), RepVs G H O ps vs → RepVs G H' O' ps vs
  | [], vs, h => by rw [RepVs] at h ⊢; exact h
  | (_, p) :: ps, vs, h => by
    rw [RepVs] at h ⊢
    obtain ⟨x, r, e, h1, h2⟩ := h
    exact ⟨x, r, e, Rep.keep k p x h1, RepVs.keep k ps r h2⟩
end
/-- fewer places kept off -/
theorem Keep.less (h : ∀ a, O' a → O a) : Keep O H O' H := ⟨fun _ _ _ e _ => e, fun _ _ e => e, fun _ _ _ e => e, fun _ _ n _ z => n (h _ z), fun _ ps e => ⟨ps, e⟩, fun t => t⟩
theorem Keep.trans {O1 : Addr → Prop} {H1 : Hp} (a : Keep O H O1 H1) (b : Keep O1 H1 O' H') : Keep O H O' H' :=
  ⟨fun c u n e t => b.same c u (a.out c u n e) (a.same c u n e t) t, fun c xs e => b.tup c xs (a.tup c xs e), fun c o xs e => b.frz c o xs (a.frz c o xs e), fun c u n e => by
    obtain ⟨u', e'⟩ := a.any n e
    exact b.out c u' (a.out c u n e) e', fun c ps e => by
    obtain ⟨qs, q⟩ := a.tbl c ps e
    exact b.tbl c qs q, fun t => b.tb (a.tb t)⟩
theorem Keep.refl : Keep O H O H := .less fun _ h => h
/-- nothing that was tracked has changed -/
theorem Keep.grow (s : Same H H') : Keep O H O H' := ⟨fun _ _ _ e _ => s _ _ e, fun _ _ e => s _ _ e, fun _ _ _ e => s _ _ e, fun _ _ n _ => n, fun _ ps e => ⟨ps, s _ _ e⟩, tb_same s⟩
/-- one more place kept off, at which nothing stood -/
theorem Keep.more {p : Addr} (h : H p = none) : Keep O H (fun a => O a ∨ a = p) H := ⟨fun _ _ _ e _ => e, fun _ _ e => e, fun _ _ _ e => e, fun a u n e z => z.elim n fun q => (by rw [q, h] at e; cases e), fun _ ps e => ⟨ps, e⟩, fun t => t⟩

theorem reps_length : ∀ {ps : List P} {vs : List V}, Reps G H O ps vs → ps.length = vs.length
  | [], _, h => by rw [Reps] at h; rw [h]; rfl
  | p :: ps, _, h => by
    rw [Reps] at h
    obtain ⟨x, r, rfl, _, h2⟩ := h
    rw [List.length_cons, List.length_cons, reps_length h2]
theorem reps_cons {p : P} {ps : List P} {x : V} {r : List V} (h1 : Rep G H O p x) (h2 : Reps G H O ps r) : Reps G H O (p :: ps) (x :: r) := by rw [Reps]; exact ⟨x, r, rfl, h1, h2⟩
theorem reps_nil : Reps G H O [] [] := by rw [Reps]
theorem reps_get : ∀ {ps : List P} {vs : List V} {i : Nat} {p : P}, Reps G H O ps vs → ps[i]? = some p → ∃ v, vs[i]? = some v ∧ Rep G H O p v
  | [], _, _, _, _, e => by simp at e
  | q :: ps, _, i, p, h, e => by
    rw [Reps] at h
    obtain ⟨x, r, rfl, h1, h2⟩ := h
    cases i with
    | zero => simp at e; subst e; exact ⟨x, rfl, h1⟩
    | succ i =>
      obtain ⟨v, e2, h3⟩ := reps_get (i := i) h2 (by simpa using e)
      exact ⟨v, by simpa using e2, h3⟩
theorem reps_get' : ∀ {ps : List P} {vs : List V} {i : Nat} {v : V}, Reps G H O ps vs → vs[i]? = some v → ∃ p, ps[i]? = some p ∧ Rep G H O p v
  | [], _, _, _, h, e => by rw [Reps] at h; subst h; simp at e
  | q :: ps, _, i, p, h, e => by
    rw [Reps] at h
    obtain ⟨x, r, rfl, h1, h2⟩ := h
    cases i with
    | zero => simp at e; subst e; exact ⟨q, rfl, h1⟩
    | succ i =>
      obtain ⟨v, e2, h3⟩ := reps_get' (i := i) h2 (by simpa using e)
      exact ⟨v, by simpa using e2, h3⟩
theorem reps_append : ∀ {ps qs : List P} {vs ws : List V}, Reps G H O ps vs → Reps G H O qs ws → Reps G H O (ps ++ qs) (vs ++ ws)
  | [], _, _, _, h, h2 => by rw [Reps] at h; subst h; exact h2
  | p :: ps, _, _, _, h, h2 => by
    rw [Reps] at h
    obtain ⟨x, r, rfl, h1, h3⟩ := h
    exact reps_cons h1 (reps_append h3 h2)
theorem reps_take : ∀ {ps : List P} {vs : List V} (n : Nat), Reps G H O ps vs → Reps G H O (ps.take n) (vs.take n)
  | [], _, n, h => by rw [Reps] at h; subst h; simp [reps_nil]
  | p :: ps, _, 0, h => by simp [reps_nil]
  | p :: ps, _, n + 1, h => by
    rw [Reps] at h
    obtain ⟨x, r, rfl, h1, h3⟩ := h
    exact reps_cons h1 (reps_take n h3)
theorem reps_drop : ∀ {ps : List P} {vs : List V} (n : Nat), Reps G H O ps vs → Reps G H O (ps.drop n) (vs.drop n)
  | [], _, n, h => by rw [Reps] at h; subst h; simp [reps_nil]
  | p :: ps, _, 0, h => h
  | p :: ps, _, n + 1, h => by
    rw [Reps] at h
    obtain ⟨x, r, rfl, h1, h3⟩ := h
    exact reps_drop n h3
theorem reps_of_get : ∀ {ps : List P} {vs : List V}, ps.length = vs.length → (∀ (i : Nat) (p : P) (v : V), ps[i]? = some p → vs[i]? = some v → Rep G H O p v) → Reps G H O ps vs
  | [], [], _, _ => reps_nil
  | [], _ :: _, h, _ => by simp at h
  | _ :: _, [], h, _ => by simp at h
  | p :: ps, v :: vs, h, k => reps_cons (k 0 p v rfl rfl) (reps_of_get (by simpa using h) fun i p v e1 e2 => k (i + 1) p v (by simpa using e1) (by simpa using e2))
theorem reps_ints (ns : List Int) : Reps G H O (ns.map PyData.int) (ns.map V.int) := reps_of_get (by simp) fun i p v e1 e2 => by
  rw [List.getElem?_map] at e1 e2
  cases h : ns[i]? with
  | none => rw [h] at e1; cases e1
  | some n => rw [h] at e1 e2; cases e1; cases e2; rw [Rep]
theorem reps_set {p : P} {v : V} (h : Rep G H O p v) : ∀ {ps : List P} {vs : List V} (i : Nat), Reps G H O ps vs → Reps G H O (ps.set i p) (vs.set i v)
  | [], _, i, q => by rw [Reps] at q; subst q; simp [reps_nil]
  | d :: ps, _, 0, q => by
    rw [Reps] at q
    obtain ⟨x, r, rfl, h1, h3⟩ := q
    exact reps_cons h h3
  | d :: ps, _, i + 1, q => by
    rw [Reps] at q
    obtain ⟨x, r, rfl, h1, h3⟩ := q
    exact reps_cons h1 (reps_set h i h3)
theorem reps_reverse {ps : List P} {vs : List V} (h : Reps G H O ps vs) : Reps G H O ps.reverse vs.reverse := reps_of_get (by simp [reps_length h]) fun i p v e1 e2 => by
  have hl := reps_length h
  by_cases hi : i < ps.length
  · rw [List.getElem?_reverse hi] at e1
    rw [List.getElem?_reverse (by omega)] at e2
    rw [← hl] at e2
    obtain ⟨w, e3, r⟩ := reps_get h e1
    rw [e2] at e3; cases e3
    exact r
  · rw [List.getElem?_eq_none (by simpa using hi)] at e1; cases e1
end
end PI
/-! PI2: the state's relation, readings of plain functions. -/
namespace PI
open PySem PySem.Spec L2

abbrev gd (X : Cx) : Gd := ⟨X.K, X.prog, X.w, X.mg⟩

/-- a set's object: whole numbers, or tuples of whole numbers -/
def SetRep (G : Gd) (H : Hp) (a : Addr) (ps : List P) : Prop :=
  (∃ ns : List Int, ps = ns.map PyData.int ∧ ns.Nodup ∧ H a = some (SetO G.w a (fun k => decide (k ∈ ns)) ns.length)) ∨
  (∃ L : List (Addr × List Int), H a = some (SetTO G.prog G.w a L) ∧ (∀ p ∈ L, TupAt G.K H p.1 (p.2.map V.int)) ∧ L.length = ps.length ∧ (L.map (·.2)).Nodup ∧ ∀ k : List Int, (PyData.tuple (k.map PyData.int)) ∈ ps ↔ k ∈ L.map (·.2))

/-- the script: known to the object, or of the written part -/
def SqZ (K : PySem.W.Frag) (H : Hp) (a : Addr) (xs : List V) : Prop := (∃ o, H a = some (.frz o (.lst xs))) ∨
  ∃ (o : Obj) (its : Array Value) (n : Nat), K.lookup a = some o ∧ o.cls = .type "list" ∧ o.dict = none ∧ o.data = .seq its n ∧ its.size ≤ sizeLine ∧ Vals xs its.toList
theorem SqZ.sq {K : PySem.W.Frag} {H : Hp} {a : Addr} {xs : List V} (h : SqZ K H a xs) : SqL K H a xs := h.elim (fun ⟨o, h⟩ => .inl (.inr ⟨o, h⟩)) .inr
/-- an object that a name of the running def owns -/
def OwnAt (G : Gd) (H : Hp) (O : Addr → Prop) : SV → Addr → Prop
  | .d (.list ds), a => ∃ xs, H a = some (.lst xs) ∧ Reps G H O ds xs
  | .d (.dict kvs), a => ∃ ks vs u, H a = some u ∧ DicO G a u kvs ks vs ∧ RepKs G H O kvs ks ∧ RepVs G H O kvs vs
  | .s ps, a => SetRep G H a ps
  | _, _ => False
def RepS (G : Gd) (H : Hp) (hs : List Addr) (O : Addr → Prop) : SV → V → Prop
  | .d p, v => Rep G H O p v
  | .s ps, v => ∃ a, v = .ref a ∧ ¬ O a ∧ SetRep G H a ps
  | .h n, v => ∃ a, v = .ref a ∧ hs[n]? = some a
  | .f x, v => ∃ u, G.mg x = some u ∧ RelV v u
  | .z ns, v => ∃ a, v = .ref a ∧ SqZ G.K H a (ns.map V.int)
/-- to be read alone: it may be a name's own -/
def RepR (G : Gd) (H : Hp) (hs : List Addr) (O : Addr → Prop) (sv : SV) (v : V) : Prop := RepS G H hs O sv v ∨ ∃ a, v = .ref a ∧ a ∉ hs ∧ OwnAt G H O sv a
/-- a new object, to which nothing else leads -/
def Fresh (G : Gd) (H H' : Hp) (hs : List Addr) (O : Addr → Prop) (sv : SV) (v : V) : Prop := ∃ p, v = .ref p ∧ H p = none ∧ p ∉ hs ∧ OwnAt G H' (fun a => O a ∨ a = p) sv p
def ResE (G : Gd) (H H' : Hp) (hs : List Addr) (O : Addr → Prop) (sv : SV) (b : Bool) (v : V) : Prop := if b = true then Fresh G H H' hs O sv v else RepS G H' hs O sv v

def HsOk (H : Hp) (hs : List Addr) (sto : List (List Int)) : Prop := hs.length = sto.length ∧ ∀ (n : Nat) (ns : List Int), sto[n]? = some ns → ∃ a, hs[n]? = some a ∧ H a = some (.lst (ns.map V.int))
/-- where a def began: the heap, what its callers own, the handles -/
structure Cn where
  He : Hp
  F : Addr → Prop
  h0 : List Addr
abbrev Off (c : Cn) (hs : List Addr) (own : List Nat) (oa : Nat → Addr) : Addr → Prop := fun a => c.F a ∨ a ∈ hs ∨ ∃ i, i ∈ own ∧ oa i = a
structure SRel (G : Gd) (c : Cn) (hs : List Addr) (oa : Nat → Addr) (sl : Slots) (w : W) (σ : St) (H : Hp) : Prop where
  len : sl.length = σ.length
  slot : ∀ (i : Nat) (sv : SV), sl[i]? = some (some sv) → i ∉ w.own → ∃ v, σ[i]? = some (some v) ∧ RepS G H hs (Off c hs w.own oa) sv v
  owns : ∀ i, i ∈ w.own → ∃ sv, sl[i]? = some (some sv) ∧ σ[i]? = some (some (.ref (oa i))) ∧ OwnAt G H (Off c hs w.own oa) sv (oa i)
  inj : ∀ i, i ∈ w.own → ∀ j, j ∈ w.own → oa i = oa j → i = j
  new : ∀ i, i ∈ w.own → c.He (oa i) = none
  nd : w.own.Nodup
  sto : HsOk H hs w.sto
  hnd : hs.Nodup
  hown : ∀ i, i ∈ w.own → oa i ∉ hs
  fd : ∀ a, c.F a → (∃ u, c.He a = some u) ∧ a ∉ hs
  ext : ∀ a u, a ∉ hs → c.He a = some u → NT u → H a = some u
  h0 : ∀ a, a ∈ hs → a ∈ c.h0 ∨ c.He a = none
  hpre : c.h0 <+: hs
  tbl : ∀ a ps, c.He a = some (.tbl ps) → ∃ qs, H a = some (.tbl qs)
  tb : Tb H

/-- an expression: all stays but the handles' lists -/
structure Ext (hs : List Addr) (H : Hp) (hs' : List Addr) (H' : Hp) : Prop where
  same : ∀ a u, a ∉ hs → H a = some u → NT u → H' a = some u
  pre : hs <+: hs'
  new : ∀ a, a ∈ hs' → a ∈ hs ∨ H a = none
  tup : ∀ a xs, H a = some (.tup xs) → H' a = some (.tup xs)
  frz : ∀ a o xs, H a = some (.frz o (.lst xs)) → H' a = some (.frz o (.lst xs))
  tbl : ∀ a ps, H a = some (.tbl ps) → ∃ qs, H' a = some (.tbl qs)
  tb : Tb H → Tb H'
theorem Ext.refl {hs : List Addr} {H : Hp} : Ext hs H hs H := ⟨fun _ _ _ h _ => h, List.prefix_refl _, fun _ h => .inl h, fun _ _ h => h, fun _ _ _ h => h, fun _ ps e => ⟨ps, e⟩, fun t => t⟩
/-- what is tracked stays tracked -/
theorem Ext.any {hs hs' : List Addr} {H H' : Hp} (x : Ext hs H hs' H') {a : Addr} {u : HO} (n : a ∉ hs) (e : H a = some u) : ∃ u', H' a = some u' := by
  rcases isT u with h | ⟨ps, rfl⟩
  · exact ⟨u, x.same a u n e h⟩
  · obtain ⟨qs, q⟩ := x.tbl a ps e
    exact ⟨_, q⟩
theorem Ext.trans {hs hs1 hs2 : List Addr} {H H1 H2 : Hp} (a : Ext hs H hs1 H1) (b : Ext hs1 H1 hs2 H2) : Ext hs H hs2 H2 := by
  refine ⟨fun c u n e t => b.same c u (fun z => (a.new c z).elim n fun q => by rw [q] at e; cases e) (a.same c u n e t) t, a.pre.trans b.pre, fun c z => ?_, fun c xs e => b.tup c xs (a.tup c xs e), fun c o xs e => b.frz c o xs (a.frz c o xs e), fun c ps e => by
    obtain ⟨qs, q⟩ := a.tbl c ps e
    exact b.tbl c qs q, fun t => b.tb (a.tb t)⟩
  rcases b.new c z with q | q
  · exact a.new c q
  · by_cases hc : c ∈ hs
    · exact .inl hc
    · refine .inr ?_
      cases e : H c with
      | none => rfl
      | some u =>
        obtain ⟨u', e'⟩ := a.any hc e
        rw [e'] at q; cases q
theorem Ext.grow {hs : List Addr} {H H' : Hp} (s : Same H H') : Ext hs H hs H' := ⟨fun _ _ _ h _ => s _ _ h, List.prefix_refl _, fun _ h => .inl h, fun _ _ h => s _ _ h, fun _ _ _ h => s _ _ h, fun _ ps e => ⟨ps, s _ _ e⟩, tb_same s⟩

abbrev Ex := Slots → W → Option ((SV × Bool) × W)
abbrev Rx := Slots → W → Option (SV × W)
def Sub (w' w : W) : Prop := ∀ i, i ∈ w'.own → i ∈ w.own
theorem Sub.refl {w : W} : Sub w w := fun _ h => h
theorem Sub.trans {w w1 w2 : W} (a : Sub w1 w) (b : Sub w2 w1) : Sub w2 w := fun i h => a i (b i h)

def tE (G : Gd) (f : Ex) : TE := fun σ H Q => ∃ c hs oa sl w sv b w', SRel G c hs oa sl w σ H ∧ f sl w = some ((sv, b), w') ∧
  ∀ v H' hs', SRel G c hs' oa sl w' σ H' → Ext hs H hs' H' → Sub w' w → ResE G H H' hs' (Off c hs' w'.own oa) sv b v → Q v H'
def tR (G : Gd) (f : Rx) : TE := fun σ H Q => ∃ c hs oa sl w sv w', SRel G c hs oa sl w σ H ∧ f sl w = some (sv, w') ∧
  ∀ v H' hs', SRel G c hs' oa sl w' σ H' → Ext hs H hs' H' → Sub w' w → RepR G H' hs' (Off c hs' w'.own oa) sv v → Q v H'

section
variable {G : Gd} {c : Cn} {hs hs' : List Addr} {oa : Nat → Addr} {sl : Slots} {w w' : W} {σ : St} {H H' : Hp} {O O' : Addr → Prop}
theorem SRel.some_own (S : SRel G c hs oa sl w σ H) {i : Nat} (h : i ∈ w.own) : ∃ u, H (oa i) = some u := by
  obtain ⟨sv, _, _, o⟩ := S.owns i h
  cases sv with
  | d p => cases p with
    | list ds => obtain ⟨xs, e, _⟩ := o; exact ⟨_, e⟩
    | dict kvs => obtain ⟨ks, vs, u, e, _⟩ := o; exact ⟨_, e⟩
    | _ => exact o.elim
  | s ps => rcases o with ⟨ns, _, _, e⟩ | ⟨L, e, _⟩ <;> exact ⟨_, e⟩
  | h n => exact o.elim
  | f x => exact o.elim
  | z ns => exact o.elim
theorem HsOk.at_ {sto : List (List Int)} (h : HsOk H hs sto) {a : Addr} (ha : a ∈ hs) : ∃ ns : List Int, H a = some (.lst (ns.map V.int)) := by
  obtain ⟨n, e⟩ := List.getElem?_of_mem ha
  have hn : n < sto.length := by
    rw [← h.1]
    exact (List.getElem?_eq_some_iff.mp e).1
  obtain ⟨b, e2, e3⟩ := h.2 n _ (List.getElem?_eq_getElem hn)
  rw [e] at e2; cases e2
  exact ⟨_, e3⟩
/-- what was tracked is tracked -/
theorem SRel.any (S : SRel G c hs oa sl w σ H) {a : Addr} {u : HO} (n : a ∉ hs) (e : c.He a = some u) : ∃ u', H a = some u' := by
  rcases isT u with h | ⟨ps, rfl⟩
  · exact ⟨u, S.ext a u n e h⟩
  · obtain ⟨qs, q⟩ := S.tbl a ps e
    exact ⟨_, q⟩
/-- what is kept off is tracked -/
theorem SRel.off_some (S : SRel G c hs oa sl w σ H) {a : Addr} (h : Off c hs w.own oa a) : ∃ u, H a = some u := by
  rcases h with h | h | ⟨i, hi, rfl⟩
  · obtain ⟨⟨u, e⟩, n⟩ := S.fd a h
    exact S.any n e
  · obtain ⟨ns, e⟩ := S.sto.at_ h
    exact ⟨_, e⟩
  · exact S.some_own hi
theorem SRel.off_none (S : SRel G c hs oa sl w σ H) {p : Addr} (h : H p = none) : ¬ Off c hs w.own oa p := fun z => by
  obtain ⟨u, e⟩ := S.off_some z
  rw [h] at e; cases e
/-- from an expression's start to its end -/
theorem Ext.keep (e : Ext hs H hs' H') (sb : Sub w' w) : Keep (Off c hs w.own oa) H (Off c hs' w'.own oa) H' := by
  refine ⟨fun a u n q t => e.same a u (fun z => n (.inr (.inl z))) q t, e.tup, e.frz, fun a u n q z => ?_, e.tbl, e.tb⟩
  rcases z with z | z | ⟨i, hi, z⟩
  · exact n (.inl z)
  · rcases e.new a z with z | z
    · exact n (.inr (.inl z))
    · rw [z] at q; cases q
  · exact n (.inr (.inr ⟨i, sb i hi, z⟩))
theorem SetRep.keep {a : Addr} {ps : List P} (k : Keep O H O' H') (ha : ∀ u, H a = some u → NT u → H' a = some u) (h : SetRep G H a ps) : SetRep G H' a ps := by
  rcases h with ⟨ns, e1, e2, e3⟩ | ⟨L, e1, e2, e3⟩
  · exact .inl ⟨ns, e1, e2, ha _ e3 (fun ps z => by unfold SetO at z; cases z)⟩
  · exact .inr ⟨L, ha _ e1 (fun ps z => by unfold SetTO at z; cases z), fun p hp => k.tupAt (e2 p hp), e3⟩
theorem OwnAt.keep {sv : SV} {a : Addr} (k : Keep O H O' H') (ha : ∀ u, H a = some u → NT u → H' a = some u) (h : OwnAt G H O sv a) : OwnAt G H' O' sv a := by
  cases sv with
  | d p => cases p with
    | list ds => obtain ⟨xs, e, r⟩ := h; exact ⟨xs, ha _ e (fun ps z => by cases z), r.keep k _ _⟩
    | dict kvs => obtain ⟨ks, vs, u, e, d, r1, r2⟩ := h; exact ⟨ks, vs, u, ha _ e (dicO_nt d), d, r1.keep k _ _, r2.keep k _ _⟩
    | _ => exact h.elim
  | s ps => exact SetRep.keep k ha h
  | h n => exact h.elim
  | f x => exact h.elim
  | z ns => exact h.elim
theorem OwnAt.some {sv : SV} {a : Addr} (h : OwnAt G H O sv a) : ∃ u, H a = some u := by
  cases sv with
  | d p => cases p with
    | list ds => obtain ⟨xs, e, _⟩ := h; exact ⟨_, e⟩
    | dict kvs => obtain ⟨ks, vs, u, e, _⟩ := h; exact ⟨_, e⟩
    | _ => exact h.elim
  | s ps => rcases h with ⟨ns, _, _, e⟩ | ⟨L, e, _⟩ <;> exact ⟨_, e⟩
  | h n => exact h.elim
  | f x => exact h.elim
  | z ns => exact h.elim
/-- what is owned is no table -/
theorem OwnAt.nt {sv : SV} {a : Addr} {u : HO} (h : OwnAt G H O sv a) (e : H a = Option.some u) : NT u := by
  cases sv with
  | d p => cases p with
    | list ds => obtain ⟨xs, q, _⟩ := h; rw [e] at q; cases q; exact plain_lst.2.2.1
    | dict kvs => obtain ⟨ks, vs, u, q, d, _⟩ := h; rw [e] at q; cases q; exact dicO_nt d
    | _ => exact h.elim
  | s ps =>
    rcases h with ⟨ns, _, _, q⟩ | ⟨L, q, _⟩ <;> rw [e] at q <;> cases q
    · exact fun ps z => by unfold SetO at z; cases z
    · exact fun ps z => by unfold SetTO at z; cases z
  | h n => exact h.elim
  | f x => exact h.elim
  | z ns => exact h.elim
theorem pre_get {n : Nat} {a : Addr} (h : hs <+: hs') (e : hs[n]? = some a) : hs'[n]? = some a := by
  obtain ⟨t, rfl⟩ := h
  rw [List.getElem?_append_left (List.getElem?_eq_some_iff.mp e).1]
  exact e
theorem RepS.keep {sv : SV} {v : V} (k : Keep O H O' H') (hp : hs <+: hs') (h : RepS G H hs O sv v) : RepS G H' hs' O' sv v := by
  cases sv with
  | d p => exact Rep.keep k p v h
  | s ps =>
    obtain ⟨a, e, n, q⟩ := h
    have hs : ∃ u, H a = some u := by rcases q with ⟨ns, _, _, e⟩ | ⟨L, e, _⟩ <;> exact ⟨_, e⟩
    obtain ⟨u, hu⟩ := hs
    exact ⟨a, e, k.out a u n hu, SetRep.keep k (fun u e t => k.same a u n e t) q⟩
  | h n => obtain ⟨a, e, q⟩ := h; exact ⟨a, e, pre_get hp q⟩
  | f x => exact h
  | z ns =>
    obtain ⟨a, e, q⟩ := h
    rcases q with ⟨o, q⟩ | q
    · exact ⟨a, e, .inl ⟨o, k.frz _ _ _ q⟩⟩
    · exact ⟨a, e, .inr q⟩
theorem RepR.keep {sv : SV} {v : V} (e : Ext hs H hs' H') (k : Keep O H O' H') (h : RepR G H hs O sv v) : RepR G H' hs' O' sv v := by
  rcases h with h | ⟨a, rfl, n, h⟩
  · exact .inl (h.keep k e.pre)
  · refine .inr ⟨a, rfl, fun z => ?_, h.keep k fun u q t => e.same a u n q t⟩
    obtain ⟨u, q⟩ := h.some
    rcases e.new a z with z | z
    · exact n z
    · rw [z] at q; cases q
/-- a new object, forgotten to be one's own -/
theorem Fresh.rep {sv : SV} {v : V} (S : SRel G c hs oa sl w σ H) (e : Ext hs H hs' H') (sb : Sub w' w) (h : Fresh G H H' hs' (Off c hs' w'.own oa) sv v) : RepS G H' hs' (Off c hs' w'.own oa) sv v := by
  obtain ⟨p, rfl, hn, hh, o⟩ := h
  have no : ¬ Off c hs' w'.own oa p := fun z => by
    rcases z with z | z | ⟨i, hi, z⟩
    · exact S.off_none hn (.inl z)
    · exact hh z
    · exact S.off_none hn (.inr (.inr ⟨i, sb i hi, z⟩))
  have k : Keep (fun a => Off c hs' w'.own oa a ∨ a = p) H' (Off c hs' w'.own oa) H' := .less fun a z => .inl z
  cases sv with
  | d q => cases q with
    | list ds => obtain ⟨xs, e1, r⟩ := o; show Rep _ _ _ _ _; rw [Rep]; exact ⟨p, xs, rfl, no, e1, r.keep k _ _⟩
    | dict kvs => obtain ⟨ks, vs, u, e1, d, r1, r2⟩ := o; show Rep _ _ _ _ _; rw [Rep]; exact ⟨p, ks, vs, u, rfl, no, .inl e1, d, r1.keep k _ _, r2.keep k _ _⟩
    | _ => exact o.elim
  | s ps => exact ⟨p, rfl, no, o⟩
  | h n => exact o.elim
  | f x => exact o.elim
  | z ns => exact o.elim
theorem ResE.rep {sv : SV} {b : Bool} {v : V} (S : SRel G c hs oa sl w σ H) (e : Ext hs H hs' H') (sb : Sub w' w) (h : ResE G H H' hs' (Off c hs' w'.own oa) sv b v) : RepS G H' hs' (Off c hs' w'.own oa) sv v := by
  unfold ResE at h
  split at h
  · exact h.rep S e sb
  · exact h
/-- the state where the heap has grown, and handles' lists have stayed -/
theorem SRel.grow (S : SRel G c hs oa sl w σ H) (s : Same H H') : SRel G c hs oa sl w σ H' where
  len := S.len
  slot := fun i sv e n => by
    obtain ⟨v, e1, r⟩ := S.slot i sv e n
    exact ⟨v, e1, r.keep (.grow s) (List.prefix_refl _)⟩
  owns := fun i hi => by
    obtain ⟨sv, e1, e2, o⟩ := S.owns i hi
    exact ⟨sv, e1, e2, o.keep (.grow s) fun u e _ => s _ _ e⟩
  inj := S.inj
  new := S.new
  nd := S.nd
  sto := ⟨S.sto.1, fun n ns e => by obtain ⟨a, e1, e2⟩ := S.sto.2 n ns e; exact ⟨a, e1, s _ _ e2⟩⟩
  hnd := S.hnd
  hown := S.hown
  fd := S.fd
  ext := fun a u n e t => s _ _ (S.ext a u n e t)
  h0 := S.h0
  hpre := S.hpre
  tbl := fun a ps e => by
    obtain ⟨qs, q⟩ := S.tbl a ps e
    exact ⟨qs, s _ _ q⟩
  tb := tb_same s S.tb
/-- a name's own is shared from here on -/
theorem SRel.give {k : Nat} (S : SRel G c hs oa sl w σ H) : SRel G c hs oa sl { w with own := w.own.erase k } σ H := by
  have less : ∀ a, Off c hs (w.own.erase k) oa a → Off c hs w.own oa a := fun a z => by
    rcases z with z | z | ⟨i, hi, z⟩
    · exact .inl z
    · exact .inr (.inl z)
    · exact .inr (.inr ⟨i, List.mem_of_mem_erase hi, z⟩)
  refine ⟨S.len, fun i sv e n => ?_, fun i hi => ?_, fun i hi j hj => S.inj i (List.mem_of_mem_erase hi) j (List.mem_of_mem_erase hj), fun i hi => S.new i (List.mem_of_mem_erase hi), S.nd.erase k, S.sto, S.hnd, fun i hi => S.hown i (List.mem_of_mem_erase hi), S.fd, S.ext, S.h0, S.hpre, S.tbl, S.tb⟩
  · by_cases hi : i ∈ w.own
    · have hk : i = k := by
        apply Decidable.byContradiction
        intro q
        exact n ((List.mem_erase_of_ne q).mpr hi)
      subst hk
      obtain ⟨sv', e1, e2, o⟩ := S.owns i hi
      rw [e] at e1; cases e1
      refine ⟨_, e2, ?_⟩
      have no : ¬ Off c hs (w.own.erase i) oa (oa i) := fun z => by
        rcases z with z | z | ⟨j, hj, z⟩
        · obtain ⟨⟨u, q⟩, _⟩ := S.fd _ z
          rw [S.new i hi] at q; cases q
        · exact S.hown i hi z
        · have := S.inj j (List.mem_of_mem_erase hj) i hi z
          subst this
          exact (List.Nodup.mem_erase_iff S.nd).mp hj |>.1 rfl
      have kk : Keep (Off c hs w.own oa) H (Off c hs (w.own.erase i) oa) H := .less less
      cases sv with
      | d q => cases q with
        | list ds => obtain ⟨xs, e1, r⟩ := o; show Rep _ _ _ _ _; rw [Rep]; exact ⟨_, xs, rfl, no, e1, r.keep kk _ _⟩
        | dict kvs => obtain ⟨ks, vs, u, e1, d, r1, r2⟩ := o; show Rep _ _ _ _ _; rw [Rep]; exact ⟨_, ks, vs, u, rfl, no, .inl e1, d, r1.keep kk _ _, r2.keep kk _ _⟩
        | _ => exact o.elim
      | s ps => exact ⟨_, rfl, no, o⟩
      | h n => exact o.elim
      | f x => exact o.elim
      | z ns => exact o.elim
    · obtain ⟨v, e1, r⟩ := S.slot i sv e hi
      exact ⟨v, e1, r.keep (.less less) (List.prefix_refl _)⟩
  · obtain ⟨sv, e1, e2, o⟩ := S.owns i (List.mem_of_mem_erase hi)
    exact ⟨sv, e1, e2, o.keep (.less less) fun u e _ => e⟩
end

/-! ### names -/
def xVar (i : Nat) : Ex := fun sl w => match sl[i]? with
  | some (some sv) => some ((sv, false), { w with own := w.own.erase i })
  | _ => none
def rVar (i : Nat) : Rx := fun sl w => match sl[i]? with
  | some (some sv) => some (sv, w)
  | _ => none
def rOf (f : Ex) : Rx := fun sl w => match f sl w with
  | some ((sv, _), w') => some (sv, w')
  | none => none
theorem _root_.L2.PE.imp {X : Cx} {e : Expr} {t t' : TE} (h : PE X e t) (k : ∀ σ H Q, t' σ H Q → t σ H Q) : PE X e t' := ⟨fun pins s σ H Q I q => h.run pins s σ H Q I (k σ H Q q)⟩
theorem tE_var {G : Gd} {i : Nat} {σ : St} {H : Hp} {Q : VK} (h : tE G (xVar i) σ H Q) : tVar i σ H Q := by
  obtain ⟨c, hs, oa, sl, w, sv, b, w', S, e, q⟩ := h
  unfold xVar at e
  split at e
  · rename_i sv' e1
    cases e
    have S' := S.give (k := i)
    have hi : i ∉ w.own.erase i := fun z => (List.Nodup.mem_erase_iff S.nd).mp z |>.1 rfl
    obtain ⟨v, e2, r⟩ := S'.slot i sv e1 hi
    exact ⟨v, e2, q v H hs S' .refl (fun j hj => List.mem_of_mem_erase hj) (by unfold ResE; rw [if_neg Bool.false_ne_true]; exact r)⟩
  · cases e
theorem tR_var {G : Gd} {i : Nat} {σ : St} {H : Hp} {Q : VK} (h : tR G (rVar i) σ H Q) : tVar i σ H Q := by
  obtain ⟨c, hs, oa, sl, w, sv, w', S, e, q⟩ := h
  unfold rVar at e
  split at e
  · rename_i sv' e1
    cases e
    by_cases hi : i ∈ w.own
    · obtain ⟨sv2, e2, e3, o⟩ := S.owns i hi
      rw [e1] at e2; cases e2
      exact ⟨_, e3, q _ H hs S .refl .refl (.inr ⟨_, rfl, S.hown i hi, o⟩)⟩
    · obtain ⟨v, e2, r⟩ := S.slot i sv e1 hi
      exact ⟨v, e2, q v H hs S .refl .refl (.inl r)⟩
  · cases e
theorem tR_of {G : Gd} {f : Ex} {σ : St} {H : Hp} {Q : VK} (h : tR G (rOf f) σ H Q) : tE G f σ H Q := by
  obtain ⟨c, hs, oa, sl, w, sv, w', S, e, q⟩ := h
  unfold rOf at e
  split at e
  · rename_i sv' b w2 e1
    cases e
    exact ⟨c, hs, oa, sl, w, sv, b, w', S, e1, fun v H' hs' S' x sb r => q v H' hs' S' x sb (.inl (r.rep S x sb))⟩
  · cases e
end PI
/-! PI3: constants, argument lists, displays, calls of defs. -/
namespace PI
open PySem PySem.Spec L2

section
variable {G : Gd} {c : Cn} {hs hs' : List Addr} {oa : Nat → Addr} {sl : Slots} {w w' : W} {σ : L2.St} {H H' : Hp} {O O' : Addr → Prop} {Q : VK}

/-! ### constants -/
def xC (p : P) : Ex := fun _ w => some ((.d p, false), w)
theorem tE_const {p : P} {v : V} (hp : ∀ H O, Rep G H O p v) (h : tE G (xC p) σ H Q) : tC v σ H Q := by
  obtain ⟨c, hs, oa, sl, w, sv, b, w', S, e, q⟩ := h
  cases e
  exact q v H hs S .refl .refl (by unfold ResE; rw [if_neg Bool.false_ne_true]; exact hp _ _)
def xFn (x : Str) : Ex := fun _ w => some ((.f x, false), w)

/-! ### lists of values -/
def RepL (G : Gd) (H : Hp) (hs : List Addr) (O : Addr → Prop) : List SV → List V → Prop
  | [], vs => vs = []
  | s :: ss, vs => ∃ v r, vs = v :: r ∧ RepS G H hs O s v ∧ RepL G H hs O ss r
theorem RepL.keep (k : Keep O H O' H') (hp : hs <+: hs') : ∀ {ss : List SV} {vs : List V}, RepL G H hs O ss vs → RepL G H' hs' O' ss vs
  | [], _, h => h
  | s :: ss, _, ⟨v, r, e, h1, h2⟩ => ⟨v, r, e, h1.keep k hp, RepL.keep k hp h2⟩
theorem RepL.length : ∀ {ss : List SV} {vs : List V}, RepL G H hs O ss vs → ss.length = vs.length
  | [], _, h => by rw [show _ = [] from h]; rfl
  | s :: ss, _, ⟨v, r, e, h1, h2⟩ => by rw [e, List.length_cons, List.length_cons, RepL.length h2]
/-- arguments that are handed on -/
def evL : List Ex → Slots → W → Option (List SV × W)
  | [], _, w => some ([], w)
  | f :: fs, sl, w => match f sl w with
    | some ((sv, _), w1) => (match evL fs sl w1 with
      | some (ss, w2) => some (sv :: ss, w2)
      | none => none)
    | none => none
def tL (G : Gd) (fs : List Ex) : TA := fun σ H Q => ∃ c hs oa sl w ss w', SRel G c hs oa sl w σ H ∧ evL fs sl w = some (ss, w') ∧
  ∀ vs H' hs', SRel G c hs' oa sl w' σ H' → Ext hs H hs' H' → Sub w' w → RepL G H' hs' (Off c hs' w'.own oa) ss vs → Q vs H'
theorem tL_nil {Q : List V → Hp → Prop} (h : tL G [] σ H Q) : tNil σ H Q := by
  obtain ⟨c, hs, oa, sl, w, ss, w', S, e, q⟩ := h
  cases e
  exact q [] H hs S .refl .refl rfl
theorem tL_cons {f : Ex} {fs : List Ex} {Q : List V → Hp → Prop} (h : tL G (f :: fs) σ H Q) : ∃ R, tE G f σ H R ∧ ∀ x H1, R x H1 → tL G fs σ H1 fun xs H2 => Q (x :: xs) H2 := by
  obtain ⟨c, hs, oa, sl, w, ss, w', S, e, q⟩ := h
  unfold evL at e
  split at e
  · rename_i sv b w1 e1
    split at e
    · rename_i ss2 w2 e2
      cases e
      refine ⟨_, ⟨c, hs, oa, sl, w, sv, b, w1, S, e1, fun v H1 hs1 S1 x1 sb1 r1 => ?_⟩, fun x H1 z => z⟩
      refine ⟨c, hs1, oa, sl, w1, ss2, w', S1, e2, fun vs H2 hs2 S2 x2 sb2 r2 => ?_⟩
      exact q _ _ _ S2 (x1.trans x2) (sb1.trans sb2) ⟨v, vs, rfl, (r1.rep S x1 sb1).keep (x2.keep sb2) x2.pre, r2⟩
    · cases e
  · cases e
theorem _root_.L2.PA.imp {X : Cx} {es : List Expr} {t t' : TA} (h : PA X es t) (k : ∀ σ H Q, t' σ H Q → t σ H Q) : PA X es t' := ⟨fun pos pins s σ H Q I q => h.run pos pins s σ H Q I (k σ H Q q)⟩
/-- a reading that leans on what follows alone -/
def Mono (t : TE) : Prop := ∀ σ H Q Q', (∀ v H1, Q v H1 → Q' v H1) → t σ H Q → t σ H Q'
theorem tE_mono {f : Ex} : Mono (tE G f) := fun σ H Q Q' k ⟨c, hs, oa, sl, w, sv, b, w', S, e, q⟩ => ⟨c, hs, oa, sl, w, sv, b, w', S, e, fun v H' hs' a1 a2 a3 a4 => k _ _ (q v H' hs' a1 a2 a3 a4)⟩
theorem tR_mono {f : Rx} : Mono (tR G f) := fun σ H Q Q' k ⟨c, hs, oa, sl, w, sv, w', S, e, q⟩ => ⟨c, hs, oa, sl, w, sv, w', S, e, fun v H' hs' a1 a2 a3 a4 => k _ _ (q v H' hs' a1 a2 a3 a4)⟩
theorem pL_nil {X : Cx} : PA X [] (tL (gd X) []) := pa_nil.imp fun σ H Q h => tL_nil h
theorem pL_cons {X : Cx} {e : Expr} {es : List Expr} {f : Ex} {fs : List Ex} (h1 : PE X e (tE (gd X) f)) (h2 : PA X es (tL (gd X) fs)) (hs : starEach (e :: es) X.env = (false, eval e X.env) :: starEach es X.env) : PA X (e :: es) (tL (gd X) (f :: fs)) :=
  (pa_cons h1 h2 hs).imp fun σ H Q h => by
    obtain ⟨R, h1, h2⟩ := tL_cons h
    exact tE_mono σ H _ _ (fun v H1 r => h2 v H1 r) h1

/-! ### displays -/
/-- what is shown by a display: elements, some of them with a star -/
def evD : List (Bool × Ex) → Slots → W → Option (List P × W)
  | [], _, w => some ([], w)
  | (false, f) :: fs, sl, w => match f sl w with
    | some ((.d p, _), w1) => (match evD fs sl w1 with
      | some (ps, w2) => some (p :: ps, w2)
      | none => none)
    | _ => none
  | (true, f) :: fs, sl, w => match f sl w with
    | some ((.d (.list qs), _), w1) => (match evD fs sl w1 with
      | some (ps, w2) => some (qs ++ ps, w2)
      | none => none)
    | some ((.d (.tuple qs), _), w1) => (match evD fs sl w1 with
      | some (ps, w2) => some (qs ++ ps, w2)
      | none => none)
    | _ => none
def tD (G : Gd) (fs : List (Bool × Ex)) : TA := fun σ H Q => ∃ c hs oa sl w ps w', SRel G c hs oa sl w σ H ∧ evD fs sl w = some (ps, w') ∧
  ∀ vs H' hs', SRel G c hs' oa sl w' σ H' → Ext hs H hs' H' → Sub w' w → Reps G H' (Off c hs' w'.own oa) ps vs → Q vs H'
theorem pD_nil {X : Cx} : PA X [] (tD (gd X) []) := pa_nil.imp fun σ H Q h => by
  obtain ⟨c, hs, oa, sl, w, ps, w', S, e, q⟩ := h
  cases e
  exact q [] H hs S .refl .refl reps_nil
theorem pD_cons {X : Cx} {e : Expr} {es : List Expr} {f : Ex} {fs : List (Bool × Ex)} (h1 : PE X e (tE (gd X) f)) (h2 : PA X es (tD (gd X) fs)) (hst : starEach (e :: es) X.env = (false, eval e X.env) :: starEach es X.env) : PA X (e :: es) (tD (gd X) ((false, f) :: fs)) :=
  (pa_cons h1 h2 hst).imp fun σ H Q h => by
    obtain ⟨c, hs, oa, sl, w, ss, w', S, e, q⟩ := h
    unfold evD at e
    split at e
    · rename_i p b w1 e1
      split at e
      · rename_i ps w2 e2
        cases e
        refine ⟨c, hs, oa, sl, w, _, b, w1, S, e1, fun v H1 hs1 S1 x1 sb1 r1 => ?_⟩
        refine ⟨c, hs1, oa, sl, w1, ps, w', S1, e2, fun vs H2 hs2 S2 x2 sb2 r2 => ?_⟩
        exact q _ _ _ S2 (x1.trans x2) (sb1.trans sb2) (reps_cons ((r1.rep S x1 sb1).keep (x2.keep sb2) x2.pre) r2)
      · cases e
    · cases e
theorem pD_star {X : Cx} {e : Expr} {es : List Expr} {p : Pos} {f : Ex} {fs : List (Bool × Ex)} (h1 : PE X e (tE (gd X) f)) (h2 : PA X es (tD (gd X) fs)) (hst : starEach (.Starred e p :: es) X.env = (true, eval e X.env) :: starEach es X.env) : PA X (.Starred e p :: es) (tD (gd X) ((true, f) :: fs)) :=
  (StX.pa_star h1 h2 hst).imp fun σ H Q h => by
    obtain ⟨c, hs, oa, sl, w, ss, w', S, e, q⟩ := h
    unfold evD at e
    split at e
    · rename_i qs b w1 e1
      split at e
      · rename_i ps w2 e2
        cases e
        refine ⟨c, hs, oa, sl, w, _, b, w1, S, e1, fun v H1 hs1 S1 x1 sb1 r1 => ?_⟩
        have r := r1.rep S x1 sb1
        have r' : Rep (gd X) H1 (Off c hs1 w1.own oa) (.list qs) v := r
        rw [Rep] at r'
        obtain ⟨a, xs, e3, n, rd, rs⟩ := r'
        refine ⟨a, xs, e3, .inr (.inl (.inl rd)), c, hs1, oa, sl, w1, ps, w', S1, e2, fun vs H2 hs2 S2 x2 sb2 r2 => ?_⟩
        exact q _ _ _ S2 (x1.trans x2) (sb1.trans sb2) (reps_append (rs.keep (x2.keep sb2) _ _) r2)
      · cases e
    · rename_i qs b w1 e1
      split at e
      · rename_i ps w2 e2
        cases e
        refine ⟨c, hs, oa, sl, w, _, b, w1, S, e1, fun v H1 hs1 S1 x1 sb1 r1 => ?_⟩
        have r := r1.rep S x1 sb1
        have r' : Rep (gd X) H1 (Off c hs1 w1.own oa) (.tuple qs) v := r
        rw [Rep] at r'
        obtain ⟨a, xs, e3, rd, rs⟩ := r'
        refine ⟨a, xs, e3, .inl rd.sq, c, hs1, oa, sl, w1, ps, w', S1, e2, fun vs H2 hs2 S2 x2 sb2 r2 => ?_⟩
        exact q _ _ _ S2 (x1.trans x2) (sb1.trans sb2) (reps_append (rs.keep (x2.keep sb2) _ _) r2)
      · cases e
    · cases e
def xTup (fs : List (Bool × Ex)) : Ex := fun sl w => match evD fs sl w with
  | some (ps, w') => if ps.length ≤ sizeLine then some ((.d (.tuple ps), false), w') else none
  | none => none
def xLst (fs : List (Bool × Ex)) : Ex := fun sl w => match evD fs sl w with
  | some (ps, w') => if ps.length ≤ sizeLine then some ((.d (.list ps), true), w') else none
  | none => none
theorem same_new {p : Addr} {o : HO} (h : H p = none) : Same H (upd H p o) := fun b x e => by rw [upd_ne (ne_of_none e h)]; exact e
theorem pE_tup {X : Cx} {es : List Expr} {fs : List (Bool × Ex)} {k : Nat} {pos : Pos} (h : PA X es (tD (gd X) fs)) : PE X (.Tuple es k pos) (tE (gd X) (xTup fs)) :=
  (pe_tup h).imp fun σ H Q h => by
    obtain ⟨c, hs, oa, sl, w, sv, b, w', S, e, q⟩ := h
    unfold xTup at e
    split at e
    · rename_i ps w2 e2
      split at e
      · rename_i hz
        cases e
        refine ⟨c, hs, oa, sl, w, ps, w', S, e2, fun vs H1 hs1 S1 x1 sb1 r1 => ⟨by rw [← reps_length r1]; exact hz, fun p hp => ?_⟩⟩
        have sm := same_new (o := .tup vs) hp
        refine q _ _ _ (S1.grow sm) (x1.trans (.grow sm)) sb1 ?_
        unfold ResE
        rw [if_neg Bool.false_ne_true]
        show Rep _ _ _ _ _
        rw [Rep]
        exact ⟨p, vs, rfl, .inl upd_same, r1.keep (.grow sm) _ _⟩
      · cases e
    · cases e
theorem pE_lst {X : Cx} {es : List Expr} {fs : List (Bool × Ex)} {pos : Pos} (h : PA X es (tD (gd X) fs)) : PE X (.List es pos) (tE (gd X) (xLst fs)) :=
  (pe_lst h).imp fun σ H Q h => by
    obtain ⟨c, hs, oa, sl, w, sv, b, w', S, e, q⟩ := h
    unfold xLst at e
    split at e
    · rename_i ps w2 e2
      split at e
      · rename_i hz
        cases e
        refine ⟨c, hs, oa, sl, w, ps, w', S, e2, fun vs H1 hs1 S1 x1 sb1 r1 => ⟨by rw [← reps_length r1]; exact hz, fun p hp => ?_⟩⟩
        have sm := same_new (o := .lst vs) hp
        refine q _ _ _ (S1.grow sm) (x1.trans (.grow sm)) sb1 ?_
        unfold ResE
        rw [if_pos rfl]
        refine ⟨p, rfl, ?_, fun z => S1.off_none hp (.inr (.inl z)), vs, upd_same, ?_⟩
        · cases eq : H p with
          | none => rfl
          | some u =>
            exfalso
            by_cases hm : p ∈ hs
            · exact S1.off_none hp (.inr (.inl (x1.pre.subset hm)))
            · obtain ⟨u', e'⟩ := x1.any hm eq
              rw [e'] at hp; cases hp
        · exact ((r1.keep (.more hp) _ _).keep (.grow sm) _ _)
      · cases e
    · cases e
end
end PI
/-! PI4: operators. -/
namespace PI
open PySem PySem.Spec L2

section
variable {G : Gd} {hs : List Addr} {σ : L2.St} {H H' : Hp} {O : Addr → Prop} {Q : VK} {x y : V}
theorem repR_int {i : Int} (h : RepR G H hs O (.d (.int i)) x) : x = .int i := by
  rcases h with h | ⟨a, _, _, h⟩
  · have h' : Rep G H O (.int i) x := h
    rw [Rep] at h'; exact h'
  · exact h.elim
theorem repR_bool {i : Bool} (h : RepR G H hs O (.d (.bool i)) x) : x = .bl i := by
  rcases h with h | ⟨a, _, _, h⟩
  · have h' : Rep G H O (.bool i) x := h
    rw [Rep] at h'; exact h'
  · exact h.elim
theorem repR_none (h : RepR G H hs O (.d .none) x) : x = .non := by
  rcases h with h | ⟨a, _, _, h⟩
  · have h' : Rep G H O .none x := h
    rw [Rep] at h'; exact h'
  · exact h.elim
theorem repR_str {i : Str} (h : RepR G H hs O (.d (.str i)) x) : x = .str i := by
  rcases h with h | ⟨a, _, _, h⟩
  · have h' : Rep G H O (.str i) x := h
    rw [Rep] at h'; exact h'
  · exact h.elim
theorem repR_list {ds : List P} (h : RepR G H hs O (.d (.list ds)) x) : ∃ a xs, x = .ref a ∧ H a = some (.lst xs) ∧ Reps G H O ds xs := by
  rcases h with h | ⟨a, e, _, xs, e2, r⟩
  · have h' : Rep G H O (.list ds) x := h
    rw [Rep] at h'
    obtain ⟨a, xs, e, _, e2, r⟩ := h'
    exact ⟨a, xs, e, e2, r⟩
  · exact ⟨a, xs, e, e2, r⟩
theorem repR_tup {ds : List P} (h : RepR G H hs O (.d (.tuple ds)) x) : ∃ a xs, x = .ref a ∧ TupAt G.K H a xs ∧ Reps G H O ds xs := by
  rcases h with h | ⟨a, _, _, h⟩
  · have h' : Rep G H O (.tuple ds) x := h
    rw [Rep] at h'; exact h'
  · exact h.elim
theorem repR_dict {kvs : List (P × P)} (h : RepR G H hs O (.d (.dict kvs)) x) : ∃ a ks vs u, x = .ref a ∧ Rd H a u ∧ DicO G a u kvs ks vs ∧ RepKs G H O kvs ks ∧ RepVs G H O kvs vs := by
  rcases h with h | ⟨a, e, _, ks, vs, u, e2, d, r1, r2⟩
  · have h' : Rep G H O (.dict kvs) x := h
    rw [Rep] at h'
    obtain ⟨a, ks, vs, u, e, _, e2, d, r1, r2⟩ := h'
    exact ⟨a, ks, vs, u, e, e2, d, r1, r2⟩
  · exact ⟨a, ks, vs, u, e, .inl e2, d, r1, r2⟩
theorem repR_set {ps : List P} (h : RepR G H hs O (.s ps) x) : ∃ a, x = .ref a ∧ SetRep G H a ps := by
  rcases h with ⟨a, e, _, h⟩ | ⟨a, e, _, h⟩
  · exact ⟨a, e, h⟩
  · exact ⟨a, e, h⟩
theorem resE_rep {sv : SV} (h : RepS G H' hs O sv x) : ResE G H H' hs O sv false x := by unfold ResE; rw [if_neg Bool.false_ne_true]; exact h
theorem resE_int {i : Int} : ResE G H H' hs O (.d (.int i)) false (.int i) := resE_rep (by show Rep _ _ _ _ _; rw [Rep])
theorem resE_bool {i : Bool} : ResE G H H' hs O (.d (.bool i)) false (.bl i) := resE_rep (by show Rep _ _ _ _ _; rw [Rep])
theorem resE_str {i : Str} : ResE G H H' hs O (.d (.str i)) false (.str i) := resE_rep (by show Rep _ _ _ _ _; rw [Rep])
theorem resE_none : ResE G H H' hs O (.d .none) false .non := resE_rep (by show Rep _ _ _ _ _; rw [Rep])
theorem resE_tup {p : Addr} {ds : List P} {xs : List V} (hp : H p = none) (r : Reps G H O ds xs) : ResE G H (upd H p (.tup xs)) hs O (.d (.tuple ds)) false (.ref p) := resE_rep (by
  show Rep _ _ _ _ _; rw [Rep]
  exact ⟨p, xs, rfl, .inl upd_same, r.keep (.grow (same_new hp)) _ _⟩)
theorem resE_list {p : Addr} {ds : List P} {xs : List V} (hp : H p = none) (ho : ∀ a, a ∈ hs → ∃ u, H a = some u) (r : Reps G H O ds xs) : ResE G H (upd H p (.lst xs)) hs O (.d (.list ds)) true (.ref p) := by
  unfold ResE
  rw [if_pos rfl]
  have hn : p ∉ hs := fun z => by
    obtain ⟨u, e⟩ := ho p z
    rw [hp] at e; cases e
  exact ⟨p, rfl, hp, hn, xs, upd_same, (r.keep (.more hp) _ _).keep (.grow (same_new hp)) _ _⟩
end

/-- an operation on values of data, by a rule of the hand layer -/
def OpSem (G : Gd) (op : P → P → Option (P × Bool)) (r2 : R2) : Prop := ∀ (H : Hp) (hs : List Addr) (O : Addr → Prop) (p q : P) (x y : V) (r : P) (b : Bool) (Q : VK),
  (∀ a, a ∈ hs → ∃ u, H a = some u) → RepR G H hs O (.d p) x → RepR G H hs O (.d q) y → op p q = some (r, b) → (∀ v H', Same H H' → ResE G H H' hs O (.d r) b v → Q v H') → r2 x y H Q
def xBin (op : P → P → Option (P × Bool)) (f g : Rx) : Ex := fun sl w => match f sl w with
  | some (.d p, w1) => (match g sl w1 with
    | some (.d q, w2) => (match op p q with
      | some (r, b) => some ((.d r, b), w2)
      | none => none)
    | _ => none)
  | _ => none
/-- the new object of an operation's result, seen from further back -/
theorem ResE.back {G : Gd} {H H1 H' : Hp} {hs hs1 hs' : List Addr} {O : Addr → Prop} {sv : SV} {b : Bool} {v : V} (x : Ext hs H hs1 H1) (h : ResE G H1 H' hs' O sv b v) (pr : ∀ a, a ∈ hs1 → a ∈ hs' := by first | exact fun a h => h | exact List.IsPrefix.subset (by assumption)) : ResE G H H' hs' O sv b v := by
  unfold ResE at h ⊢
  split
  · rename_i hb
    rw [if_pos hb] at h
    obtain ⟨p, e, n, nh, o⟩ := h
    refine ⟨p, e, ?_, nh, o⟩
    cases q : H p with
    | none => rfl
    | some u =>
      by_cases hm : p ∈ hs
      · exact absurd (pr p (x.pre.subset hm)) nh
      · obtain ⟨u', e'⟩ := x.any hm q
        rw [e'] at n; cases n
  · rename_i hb
    rw [if_neg hb] at h
    exact h
theorem tE_bin {G : Gd} {op : P → P → Option (P × Bool)} {r2 : R2} (hop : OpSem G op r2) {f g : Rx} {σ : L2.St} {H : Hp} {Q : VK} (h : tE G (xBin op f g) σ H Q) : tOp r2 (tR G f) (tR G g) σ H Q := by
  obtain ⟨c, hs, oa, sl, w, sv, b, w', S, e, q⟩ := h
  unfold xBin at e
  split at e
  · rename_i p w1 e1
    split at e
    · rename_i p2 w2 e2
      split at e
      · rename_i r b2 e3
        cases e
        refine ⟨c, hs, oa, sl, w, _, w1, S, e1, fun v H1 hs1 S1 x1 sb1 r1 => ?_⟩
        refine ⟨c, hs1, oa, sl, w1, _, w', S1, e2, fun u H2 hs2 S2 x2 sb2 r2 => ?_⟩
        have hsm : ∀ a, a ∈ hs2 → ∃ u, H2 a = some u := fun a ha => S2.off_some (.inr (.inl ha))
        refine hop H2 hs2 (Off c hs2 w'.own oa) p p2 v u r b Q hsm (r1.keep x2 (x2.keep sb2)) r2 e3 fun z H3 sm res => ?_
        exact q z H3 hs2 (S2.grow sm) ((x1.trans x2).trans (.grow sm)) (sb1.trans sb2) (res.back (x1.trans x2))
      · cases e
    · cases e
  · cases e
theorem pE_bin {X : Cx} {a b : Expr} {op : Operator} {r2 : R2} {o : P → P → Option (P × Bool)} {f g : Rx} {pos : Pos} (hr : OpR X (binaryOp op) r2) (hop : OpSem (gd X) o r2) (ha : PE X a (tR (gd X) f)) (hb : PE X b (tR (gd X) g)) :
    PE X (.BinOp a op b pos) (tE (gd X) (xBin o f g)) := (pe_op hr ha hb).imp fun σ H Q h => tE_bin hop h

/-! ### + -/
def addP : P → P → Option (P × Bool)
  | .int a, .int b => some (.int (a + b), false)
  | .tuple a, .tuple b => if a.length + b.length ≤ sizeLine then some (.tuple (a ++ b), false) else none
  | .list a, .list b => if a.length + b.length ≤ sizeLine then some (.list (a ++ b), true) else none
  | _, _ => none
def rAddP (K : PySem.W.Frag) : R2 := fun x y H Q => (rI0 fun i j => .int (i + j)) x y H Q ∨ (rCatA K x y H Q ∨ rCat x y H Q)
theorem op_addP {X : Cx} : OpR X (binaryOp .Add) (rAddP X.K) := op_add.or (op_catA.or op_cat)
theorem sem_add {G : Gd} : OpSem G addP (rAddP G.K) := by
  intro H hs O p q x y r b Q ho hx hy e k
  unfold addP at e
  split at e
  · cases e
    exact .inl ⟨_, _, repR_int hx, repR_int hy, k _ H (Same.refl _) resE_int⟩
  · rename_i ds es
    split at e
    · rename_i hz
      cases e
      obtain ⟨a, xs, rfl, ta, ra⟩ := repR_tup hx
      obtain ⟨b', ys, rfl, tb, rb⟩ := repR_tup hy
      refine .inr (.inl ⟨a, b', xs, ys, rfl, rfl, ta.sq, tb.sq, by rw [← reps_length ra, ← reps_length rb]; exact hz, fun e0 => ?_, fun _ e0 => ?_, fun _ _ p hp => k _ _ (same_new hp) (resE_tup hp (reps_append ra rb))⟩)
      · subst e0
        have hd : ds = [] := List.eq_nil_of_length_eq_zero (reps_length ra)
        subst hd
        exact k _ H (Same.refl _) (resE_rep (by show Rep _ _ _ _ _; rw [Rep]; exact ⟨b', ys, rfl, tb, rb⟩))
      · subst e0
        have hd : es = [] := List.eq_nil_of_length_eq_zero (reps_length rb)
        subst hd
        exact k _ H (Same.refl _) (resE_rep (by show Rep _ _ _ _ _; rw [List.append_nil, Rep]; exact ⟨a, xs, rfl, ta, ra⟩))
    · cases e
  · rename_i ds es
    split at e
    · rename_i hz
      cases e
      obtain ⟨a, xs, rfl, ta, ra⟩ := repR_list hx
      obtain ⟨b', ys, rfl, tb, rb⟩ := repR_list hy
      exact .inr (.inr ⟨a, b', xs, ys, rfl, rfl, ta, tb, by rw [← reps_length ra, ← reps_length rb]; exact hz, fun p hp => k _ _ (same_new hp) (resE_list hp ho (reps_append ra rb))⟩)
    · cases e
  · cases e

/-! ### -, %, //, ** -/
def subP : P → P → Option (P × Bool)
  | .int a, .int b => some (.int (a - b), false)
  | _, _ => none
theorem sem_sub {G : Gd} : OpSem G subP (rI0 fun i j => .int (i - j)) := by
  intro H hs O p q x y r b Q ho hx hy e k
  unfold subP at e
  split at e
  · cases e; exact ⟨_, _, repR_int hx, repR_int hy, k _ H (Same.refl _) resE_int⟩
  · cases e
def modP : P → P → Option (P × Bool)
  | .int a, .int b => if 0 < b then some (.int (a % b), false) else none
  | _, _ => none
theorem sem_mod {G : Gd} : OpSem G modP (rI (fun _ j => 0 < j) fun i j => .int (i % j)) := by
  intro H hs O p q x y r b Q ho hx hy e k
  unfold modP at e
  split at e
  · split at e
    · rename_i hz
      cases e; exact ⟨_, _, repR_int hx, repR_int hy, hz, k _ H (Same.refl _) resE_int⟩
    · cases e
  · cases e
def fdivP : P → P → Option (P × Bool)
  | .int a, .int b => if 0 < b ∧ b < 1073741824 then some (.int (a / b), false) else none
  | _, _ => none
theorem sem_fdiv {G : Gd} : OpSem G fdivP (rI CDiv fun i j => .int (i / j)) := by
  intro H hs O p q x y r b Q ho hx hy e k
  unfold fdivP at e
  split at e
  · split at e
    · rename_i hz
      cases e; exact ⟨_, _, repR_int hx, repR_int hy, hz, k _ H (Same.refl _) resE_int⟩
    · cases e
  · cases e
def CPowW (i j : Int) : Prop := 0 ≤ j ∧ (Builtin.Int.intBits i : Int) * j ≤ 2 ^ 27
theorem op_powW {X : Cx} : OpR X (binaryOp .Pow) (rI CPowW fun i j => .int (i ^ j.toNat)) := opI fun _ _ _ _ _ _ _ hc q => PyProof.Rows.pow_int hc.1 hc.2 q
def powP : P → P → Option (P × Bool)
  | .int a, .int b => if 0 ≤ b ∧ (Builtin.Int.intBits a : Int) * b ≤ 2 ^ 27 then some (.int (a ^ b.toNat), false) else none
  | _, _ => none
theorem sem_pow {G : Gd} : OpSem G powP (rI CPowW fun i j => .int (i ^ j.toNat)) := by
  intro H hs O p q x y r b Q ho hx hy e k
  unfold powP at e
  split at e
  · split at e
    · rename_i hz
      cases e; exact ⟨_, _, repR_int hx, repR_int hy, hz, k _ H (Same.refl _) resE_int⟩
    · cases e
  · cases e
end PI
/-! PI4b: tuple times an int, every case. -/
namespace PI
open PySem PySem.Spec L2 PyProof.Rows

theorem tuple_mul1 (l : Addr) (items : Array Value) (n : Nat) (dd : Option Addr) (sl : Array (Option Value)) (x : Int) (u : Tok) (c0 : (decide (x < -(2 ^ 63)) || decide (x ≥ 2 ^ 63)) = false) (c1 : (items.isEmpty || x == 1) = true) :
    Meets (Builtin.«tuple.__mul__» ⟨[.ref l, .int x u], []⟩) (fun _ R s => s.heap.get? l = some { cls := .type "tuple", dict := dd, data := .seq items n, slots := sl } ∧
      R (.ok (.ret (Value.ref l))) s) :=
  .of_wp fun prog w A R s h => by
    obtain ⟨hp, g, d, tk, os⟩ := s
    obtain ⟨hl, h⟩ := h
    have f1 := AutoSeq1.idx_int
    wp_walk using wpAny_loadPart' hl
    repeat (first
      | (refine wpAny_ite_false (decide_eq_false (by rw [c0]; exact Bool.false_ne_true)) ?_; wp_walk using wpAny_loadPart' hl)
      | (refine wpAny_ite_true (decide_eq_true (by rw [c1])) ?_; wp_walk using wpAny_loadPart' hl))
    exact ⟨_, rfl, h⟩
theorem tuple_mul0 (l : Addr) (items : Array Value) (n : Nat) (dd : Option Addr) (sl : Array (Option Value)) (x : Int) (u : Tok) (c0 : (decide (x < -(2 ^ 63)) || decide (x ≥ 2 ^ 63)) = false) (c1 : (items.isEmpty || x == 1) = false) (c2 : (decide (x ≤ 0) || items.isEmpty) = true) :
    Meets (Builtin.«tuple.__mul__» ⟨[.ref l, .int x u], []⟩) (fun _ R s => s.heap.get? l = some { cls := .type "tuple", dict := dd, data := .seq items n, slots := sl } ∧
      R (.ok (.ret (Value.ref s.heap.objs.size))) { s with heap := s.heap.push { cls := Value.type "tuple", data := Data.seq #[] }, toks := s.toks }) :=
  .of_wp fun prog w A R s h => by
    obtain ⟨hp, g, d, tk, os⟩ := s
    obtain ⟨hl, h⟩ := h
    have f1 := AutoSeq1.idx_int
    wp_walk using wpAny_loadPart' hl
    repeat (first
      | (refine wpAny_ite_false (decide_eq_false (by rw [c0]; exact Bool.false_ne_true)) ?_; wp_walk using wpAny_loadPart' hl)
      | (refine wpAny_ite_false (decide_eq_false (by rw [c1]; exact Bool.false_ne_true)) ?_; wp_walk using wpAny_loadPart' hl)
      | (refine wpAny_ite_true (decide_eq_true (by rw [c2])) ?_; wp_walk using wpAny_loadPart' hl))
    exact ⟨_, rfl, h⟩

section
variable {X : Cx}
/-- t * k, 0 ≤ k -/
def rRepA (K : PySem.W.Frag) : R2 := fun x y H Q => ∃ l k xs, x = .ref l ∧ y = .int k ∧ SqT K H l xs ∧ k ≤ 1000 ∧ -1000 ≤ k ∧ xs.length ≤ 1000 ∧
  ((xs = [] ∨ k = 1) → Q (.ref l) H) ∧ (xs ≠ [] → k ≠ 1 → ∀ p, H p = none → Q (.ref p) (upd H p (.tup (List.replicate k.toNat xs).flatten)))
theorem op_repA : OpR X (binaryOp .Mult) (rRepA X.K) := by
  intro pins s σ H x y v u Q I rx ry h
  obtain ⟨l, k, xs, rfl, rfl, hT, h1, h0, hz, q1, q2⟩ := h
  by_cases hc : xs = [] ∨ k = 1
  · cases rx
    obtain ⟨t, rfl⟩ := ry
    obtain ⟨its, r, ⟨⟨cls, dd, data, sl⟩, ho, hc', n, hd⟩, hs⟩ := I.tuple hT
    simp only at hc' hd
    subst hc' hd
    have c0 : (decide (k < -(2 ^ 63)) || decide (k ≥ 2 ^ 63)) = false := by
      rw [decide_eq_false (by omega), decide_eq_false (by omega)] <;> rfl
    have c1 : (its.toArray.isEmpty || k == 1) = true := by
      rcases hc with e | e
      · subst e
        have : its = [] := List.eq_nil_of_length_eq_zero r.length.symm
        subst this; rfl
      · subst e; simp
    refine wpAny_binaryOp_repeat_ref (T := "tuple") (U := "int") (by decide) ⟨_, ho, rfl⟩ (fun s' => typeIs_int s' k t) noFill_tuple_mul F.fills_int_mul F.slot_int_rmul repeat_tuple F.slot_int_index.lookup
      (call_meets F.slot_int_rmul (typeIs_int s k t) F.entry_int_rmul (F.args_int_rmul_2 _ _) (int_rmul_tuple k t l its.toArray n dd sl)
        ⟨ho, rfl, ⟨_, ho, rfl⟩, call_meets F.slot_tuple_mul ⟨_, ho, rfl⟩ F.entry_tuple_mul (F.args_tuple_mul_2 _ _) (tuple_mul1 l its.toArray n dd sl k t c0 c1) ⟨ho, ?_⟩⟩)
    exact ⟨.ref l, H, I, rfl, q1 hc⟩
  · have hx : xs ≠ [] := fun e => hc (.inl e)
    have hk : k ≠ 1 := fun e => hc (.inr e)
    by_cases h2 : 2 ≤ k
    · exact op_repT pins s σ H _ _ v u Q I rx ry ⟨l, k, xs, rfl, rfl, hT, hx, h2, h1, hz, q2 hx hk⟩
    · cases rx
      obtain ⟨t, rfl⟩ := ry
      obtain ⟨its, r, ⟨⟨cls, dd, data, sl⟩, ho, hc', n, hd⟩, hs⟩ := I.tuple hT
      simp only at hc' hd
      subst hc' hd
      have c0 : (decide (k < -(2 ^ 63)) || decide (k ≥ 2 ^ 63)) = false := by
        rw [decide_eq_false (by omega), decide_eq_false (by omega)] <;> rfl
      have hi : its.toArray.isEmpty = false := by
        cases its with
        | nil => exact absurd (List.eq_nil_of_length_eq_zero r.length) hx
        | cons a b => rfl
      have c1 : (its.toArray.isEmpty || k == 1) = false := by
        rw [hi, Bool.false_or]
        exact beq_eq_false_iff_ne.mpr hk
      have c2 : (decide (k ≤ 0) || its.toArray.isEmpty) = true := by
        rw [decide_eq_true (by omega)]; rfl
      refine wpAny_binaryOp_repeat_ref (T := "tuple") (U := "int") (by decide) ⟨_, ho, rfl⟩ (fun s' => typeIs_int s' k t) noFill_tuple_mul F.fills_int_mul F.slot_int_rmul repeat_tuple F.slot_int_index.lookup
        (call_meets F.slot_int_rmul (typeIs_int s k t) F.entry_int_rmul (F.args_int_rmul_2 _ _) (int_rmul_tuple k t l its.toArray n dd sl)
          ⟨ho, rfl, ⟨_, ho, rfl⟩, call_meets F.slot_tuple_mul ⟨_, ho, rfl⟩ F.entry_tuple_mul (F.args_tuple_mul_2 _ _) (tuple_mul0 l its.toArray n dd sl k t c0 c1 c2) ⟨ho, ?_⟩⟩)
      have hk0 : k.toNat = 0 := by omega
      have q3 := q2 hx hk _ (I.hok.fresh (Nat.le_refl s.heap.objs.size))
      rw [hk0] at q3
      refine ⟨.ref s.heap.objs.size, _, I.laid (t' := s.toks) (o := .tup []) (fun b ob q => Heap.get?_push_of_some _ q) (Nat.le_refl _) ?_, rfl, q3⟩
      exact ⟨Nat.zero_le _, [], .nil, IsTup.new _ _⟩
end
def mulP : P → P → Option (P × Bool)
  | .int a, .int b => if (-(2 ^ 64) < a ∧ a < 2 ^ 64) ∨ (-(2 ^ 64) < b ∧ b < 2 ^ 64) then some (.int (a * b), false) else none
  | .tuple a, .int b => if -1000 ≤ b ∧ b ≤ 1000 ∧ a.length ≤ 1000 then some (.tuple (List.replicate b.toNat a).flatten, false) else none
  | .list a, .int b => if -1000 ≤ b ∧ b ≤ 1000 ∧ a.length ≤ 1000 then some (.list (List.replicate b.toNat a).flatten, true) else none
  | _, _ => none
def rMulP (K : PySem.W.Frag) : R2 := fun x y H Q => (rI CMul fun i j => .int (i * j)) x y H Q ∨ (rRepA K x y H Q ∨ rRep x y H Q)
theorem op_mulP {X : Cx} : OpR X (binaryOp .Mult) (rMulP X.K) := op_mul.or (op_repA.or op_rep)
theorem reps_rep {G : Gd} {H : Hp} {O : Addr → Prop} {ds : List P} {xs : List V} (h : Reps G H O ds xs) : ∀ n : Nat, Reps G H O (List.replicate n ds).flatten (List.replicate n xs).flatten
  | 0 => reps_nil
  | n + 1 => by
    rw [List.replicate_succ, List.replicate_succ, List.flatten_cons, List.flatten_cons]
    exact reps_append h (reps_rep h n)
theorem sem_mul {G : Gd} : OpSem G mulP (rMulP G.K) := by
  intro H hs O p q x y r b Q ho hx hy e k
  unfold mulP at e
  split at e
  · split at e
    · rename_i hz
      cases e
      exact .inl ⟨_, _, repR_int hx, repR_int hy, hz, k _ H (Same.refl _) resE_int⟩
    · cases e
  · rename_i ds n
    split at e
    · rename_i hz
      cases e
      obtain ⟨a, xs, rfl, ta, ra⟩ := repR_tup hx
      have hl := reps_length ra
      refine .inr (.inl ⟨a, n, xs, rfl, repR_int hy, ta.sq, hz.2.1, hz.1, by rw [← hl]; exact hz.2.2, fun e0 => ?_, fun _ _ p hp => k _ _ (same_new hp) (resE_tup hp (reps_rep ra _))⟩)
      refine k _ H (Same.refl _) (resE_rep ?_)
      show Rep _ _ _ _ _
      rw [Rep]
      refine ⟨a, xs, rfl, ta, ?_⟩
      rcases e0 with e0 | e0
      · subst e0
        have hd : ds = [] := List.eq_nil_of_length_eq_zero hl
        subst hd
        have : (List.replicate n.toNat ([] : List P)).flatten = [] := by simp
        rw [this]; exact reps_nil
      · subst e0
        have : (List.replicate (Int.toNat 1) ds).flatten = ds := by simp
        rw [this]; exact ra
    · cases e
  · rename_i ds n
    split at e
    · rename_i hz
      cases e
      obtain ⟨a, xs, rfl, ta, ra⟩ := repR_list hx
      have hl := reps_length ra
      refine .inr (.inr ⟨a, n, xs, rfl, repR_int hy, ta, by omega, by omega, ?_, fun p hp => k _ _ (same_new hp) (resE_list hp ho (reps_rep ra _))⟩)
      rw [← hl, sizeLine_eq]
      have a1 : ds.length * n.toNat ≤ 1000 * 1000 := Nat.mul_le_mul (by omega) (by omega)
      omega
    · cases e
  · cases e
end PI
/-! PI5: comparisons of data, tests. -/
namespace PI
open PySem PySem.Spec L2

section
variable {G : Gd} {hs : List Addr} {σ : L2.St} {H H' : Hp} {O : Addr → Prop}
mutual
theorem Rep.dp : ∀ (p : P) (v : V), PyData.canLay0 p = true → Rep G H O p v → Dp G.K H v p
  | .none, v, _, h => by rw [Rep] at h; subst h; exact .non
  | .bool b, v, _, h => by rw [Rep] at h; subst h; exact .bl b
  | .int i, v, _, h => by rw [Rep] at h; subst h; exact .int i
  | .str x, v, _, h => by rw [Rep] at h; subst h; exact .str x
  | .list ds, v, c, h => by
    rw [Rep] at h
    obtain ⟨a, xs, rfl, _, e, r⟩ := h
    rw [PyData.canLay0] at c
    exact .lst (.inl (.inl e)) (Reps.dp ds xs c r)
  | .tuple ds, v, c, h => by
    rw [Rep] at h
    obtain ⟨a, xs, rfl, e, r⟩ := h
    rw [PyData.canLay0] at c
    exact .tup e.sq (Reps.dp ds xs c r)
  | .dict kvs, v, c, h => by simp [PyData.canLay0] at c
theorem Reps.dp : ∀ (ps : List P) (vs : List V), PyData.canLayAll0 ps = true → Reps G H O ps vs → DpAll G.K H vs ps
  | [], vs, _, h => by rw [Reps] at h; subst h; exact .nil
  | p :: ps, vs, c, h => by
    rw [Reps] at h
    obtain ⟨x, r, rfl, h1, h2⟩ := h
    rw [PyData.canLayAll0, Bool.and_eq_true] at c
    exact .cons (Rep.dp p x c.1 h1) (Reps.dp ps r c.2 h2)
end
theorem repR_dp {p : P} {x : V} (c : SeqAt.shaped p = true) (h : RepR G H hs O (.d p) x) : Dp G.K H x p := by
  have c' := SeqAt.canLay_of_shaped c
  rcases h with h | ⟨a, rfl, _, h⟩
  · exact Rep.dp p x c' h
  · cases p with
    | list ds =>
      obtain ⟨xs, e, r⟩ := h
      rw [PyData.canLay0] at c'
      exact .lst (.inl (.inl e)) (Reps.dp ds xs c' r)
    | dict kvs => simp [PyData.canLay0] at c'
    | _ => exact h.elim
end

/-- a comparison -/
def CmpSem (G : Gd) (op : SV → SV → Option Bool) (r2 : R2) : Prop := ∀ (H : Hp) (hs : List Addr) (O : Addr → Prop) (s t : SV) (x y : V) (b : Bool) (Q : VK),
  RepR G H hs O s x → RepR G H hs O t y → op s t = some b → Q (.bl b) H → r2 x y H Q
def xCmp (op : SV → SV → Option Bool) (f g : Rx) : Ex := fun sl w => match f sl w with
  | some (s, w1) => (match g sl w1 with
    | some (t, w2) => (match op s t with
      | some b => some ((.d (.bool b), false), w2)
      | none => none)
    | _ => none)
  | _ => none
theorem tE_cmp {G : Gd} {op : SV → SV → Option Bool} {r2 : R2} (hop : CmpSem G op r2) {f g : Rx} {σ : L2.St} {H : Hp} {Q : VK} (h : tE G (xCmp op f g) σ H Q) : tOp r2 (tR G f) (tR G g) σ H Q := by
  obtain ⟨c, hs, oa, sl, w, sv, b, w', S, e, q⟩ := h
  unfold xCmp at e
  split at e
  · rename_i p w1 e1
    split at e
    · rename_i p2 w2 e2
      split at e
      · rename_i r e3
        cases e
        refine ⟨c, hs, oa, sl, w, _, w1, S, e1, fun v H1 hs1 S1 x1 sb1 r1 => ?_⟩
        refine ⟨c, hs1, oa, sl, w1, _, w', S1, e2, fun u H2 hs2 S2 x2 sb2 r2 => ?_⟩
        exact hop H2 hs2 (Off c hs2 w'.own oa) p p2 v u r Q (r1.keep x2 (x2.keep sb2)) r2 e3 (q _ H2 hs2 S2 (x1.trans x2) (sb1.trans sb2) resE_bool)
      · cases e
    · cases e
  · cases e
theorem pE_cmp {X : Cx} {a b : Expr} {op : CmpOp} {r2 : R2} {o : SV → SV → Option Bool} {f g : Rx} {pos : Pos} (hr : OpR X (compareOp op) r2) (hop : CmpSem (gd X) o r2) (ha : PE X a (tR (gd X) f)) (hb : PE X b (tR (gd X) g)) (hm : behindInMarks op b = false) :
    PE X (.Compare a [op] [b] pos) (tE (gd X) (xCmp o f g)) := (pe_cmpR hr ha hb hm).imp fun σ H Q h => tE_cmp hop h

/-! ### ==, != -/
def eqS : SV → SV → Option Bool
  | .d p, .d q => if SeqAt.shaped p = true ∧ SeqAt.shaped q = true then some (PyData.eqv p q) else none
  | _, _ => none
def neS : SV → SV → Option Bool
  | .d p, .d q => if SeqAt.shaped p = true ∧ SeqAt.shaped q = true then some (!PyData.eqv p q) else none
  | _, _ => none
theorem sem_eq {G : Gd} : CmpSem G eqS (rEqD G.K) := by
  intro H hs O s t x y b Q hx hy e q
  unfold eqS at e
  split at e
  · split at e
    · rename_i hc
      cases e
      exact ⟨_, _, repR_dp hc.1 hx, repR_dp hc.2 hy, hc.1, hc.2, q⟩
    · cases e
  · cases e
theorem sem_ne {G : Gd} : CmpSem G neS (rNeD G.K) := by
  intro H hs O s t x y b Q hx hy e q
  unfold neS at e
  split at e
  · split at e
    · rename_i hc
      cases e
      exact ⟨_, _, repR_dp hc.1 hx, repR_dp hc.2 hy, hc.1, hc.2, q⟩
    · cases e
  · cases e

/-! ### <, <=, >, >= -/
def ltS : SV → SV → Option Bool
  | .d (.int i), .d (.int j) => some (decide (i < j))
  | .d (.tuple p), .d (.tuple q) => if PySem.W.alike (.tuple p) (.tuple q) = true ∧ SeqAt.shaped (.tuple p) = true ∧ SeqAt.shaped (.tuple q) = true then some (PySem.W.dataLt (.tuple p) (.tuple q)) else none
  | _, _ => none
def leS : SV → SV → Option Bool
  | .d (.int i), .d (.int j) => some (decide (i ≤ j))
  | _, _ => none
def gtS : SV → SV → Option Bool
  | .d (.int i), .d (.int j) => some (decide (j < i))
  | _, _ => none
def geS : SV → SV → Option Bool
  | .d (.int i), .d (.int j) => some (decide (j ≤ i))
  | _, _ => none
theorem sem_le {G : Gd} : CmpSem G leS (rI0 fun i j => .bl (decide (i ≤ j))) := by
  intro H hs O s t x y b Q hx hy e q
  unfold leS at e
  split at e
  · cases e; exact ⟨_, _, repR_int hx, repR_int hy, q⟩
  · cases e
theorem sem_gt {G : Gd} : CmpSem G gtS (rI0 fun i j => .bl (decide (j < i))) := by
  intro H hs O s t x y b Q hx hy e q
  unfold gtS at e
  split at e
  · cases e; exact ⟨_, _, repR_int hx, repR_int hy, q⟩
  · cases e
theorem sem_ge {G : Gd} : CmpSem G geS (rI0 fun i j => .bl (decide (j ≤ i))) := by
  intro H hs O s t x y b Q hx hy e q
  unfold geS at e
  split at e
  · cases e; exact ⟨_, _, repR_int hx, repR_int hy, q⟩
  · cases e
def rLtD (K : PySem.W.Frag) : R2 := fun x y H Q => ∃ d e, Dp K H x d ∧ Dp K H y e ∧ SeqAt.shaped d = true ∧ PySem.W.alike d e = true ∧ d ≠ .none ∧ Q (.bl (PySem.W.dataLt d e)) H
theorem op_ltD {X : Cx} (hu : X.A.units + 64 < cLine) : OpR X (compareOp .Lt) (rLtD X.K) := by
  intro pins s σ H x y v u Q I rx ry h
  obtain ⟨d, e, hd, he, sd, al, nn, q⟩ := h
  obtain ⟨as, r1⟩ := Dp.reads I d x v hd rx
  obtain ⟨bs, r2⟩ := Dp.reads I e y u he ry
  exact PySem.W.rcLt_alike d e X.A s v u as bs r1 r2 al nn (SeqAt.room_of_shaped sd hu) _ _ _ _ ⟨.bl _, H, I, rfl, q⟩
def rLtP (K : PySem.W.Frag) : R2 := fun x y H Q => (rI0 fun i j => .bl (decide (i < j))) x y H Q ∨ rLtD K x y H Q
theorem op_ltP {X : Cx} (hu : X.A.units + 64 < cLine) : OpR X (compareOp .Lt) (rLtP X.K) := op_lt.or (op_ltD hu)
theorem sem_lt {G : Gd} : CmpSem G ltS (rLtP G.K) := by
  intro H hs O s t x y b Q hx hy e q
  unfold ltS at e
  split at e
  · cases e; exact .inl ⟨_, _, repR_int hx, repR_int hy, q⟩
  · split at e
    · rename_i hc
      cases e
      exact .inr ⟨_, _, repR_dp hc.2.1 hx, repR_dp hc.2.2 hy, hc.2.1, hc.1, PyData.noConfusion, q⟩
    · cases e
  · cases e

/-! ### in, not in: lists, tuples of data, sets of whole numbers -/
def rInT (K : PySem.W.Frag) (neg : Bool) : R2 := fun x y H Q => ∃ d ds, Dp K H x d ∧ Dp K H y (.tuple ds) ∧ SeqAt.shaped d = true ∧ SeqAt.shaped (.tuple ds) = true ∧ Q (.bl (if neg then !ds.any fun z => PyData.eqv z d else ds.any fun z => PyData.eqv z d)) H
theorem op_inT {X : Cx} (hu : X.A.units + 65 < cLine) : OpR X (compareOp .In) (rInT X.K false) := by
  intro pins s σ H x y v u Q I rx ry h
  obtain ⟨d, ds, hd, he, sd, se, q⟩ := h
  obtain ⟨as, r1⟩ := Dp.reads I d x v hd rx
  obtain ⟨bs, r2⟩ := Dp.reads I (.tuple ds) y u he ry
  exact SeqAt.in_tuple_reads r2 r1 (SeqAt.canLay_of_shaped se) (SeqAt.canLay_of_shaped sd) (PyProof.Rows.room_in_shaped sd hu) ⟨.bl _, H, I, rfl, q⟩
theorem op_ninT {X : Cx} (hu : X.A.units + 65 < cLine) : OpR X (compareOp .NotIn) (rInT X.K true) := by
  intro pins s σ H x y v u Q I rx ry h
  obtain ⟨d, ds, hd, he, sd, se, q⟩ := h
  obtain ⟨as, r1⟩ := Dp.reads I d x v hd rx
  obtain ⟨bs, r2⟩ := Dp.reads I (.tuple ds) y u he ry
  exact SeqAt.notIn_tuple_reads r2 r1 (SeqAt.canLay_of_shaped se) (SeqAt.canLay_of_shaped sd) (PyProof.Rows.room_in_shaped sd hu) ⟨.bl _, H, I, rfl, q⟩
def isNonP : P → Bool
  | .none => true
  | _ => false
def xNone (neg : Bool) (f : Rx) : Ex := fun sl w => match f sl w with
  | some (.d p, w1) => some ((.d (.bool (neg ^^ (isNonP p))), false), w1)
  | _ => none
theorem rep_non {G : Gd} {H : Hp} {O : Addr → Prop} : ∀ {p : P} {v : V}, Rep G H O p v → decide (v = V.non) = (isNonP p)
  | .none, v, h => by rw [Rep] at h; subst h; rfl
  | .bool b, v, h => by rw [Rep] at h; subst h; rfl
  | .int i, v, h => by rw [Rep] at h; subst h; rfl
  | .str x, v, h => by rw [Rep] at h; subst h; rfl
  | .list ds, v, h => by rw [Rep] at h; obtain ⟨a, xs, rfl, _⟩ := h; rfl
  | .tuple ds, v, h => by rw [Rep] at h; obtain ⟨a, xs, rfl, _⟩ := h; rfl
  | .dict ds, v, h => by rw [Rep] at h; obtain ⟨a, ks, vs, u, rfl, _⟩ := h; rfl
theorem repR_non {G : Gd} {H : Hp} {hs : List Addr} {O : Addr → Prop} {p : P} {v : V} (h : RepR G H hs O (.d p) v) : decide (v = V.non) = (isNonP p) := by
  rcases h with h | ⟨a, rfl, _, h⟩
  · exact rep_non h
  · cases p with
    | list ds => rfl
    | dict ds => rfl
    | _ => exact h.elim
theorem pE_isNone {X : Cx} {a : Expr} {f : Rx} {j : Nat} {p pos : Pos} (ha : PE X a (tR (gd X) f)) : PE X (.Compare a [.Is] [.Constant .none j p] pos) (tE (gd X) (xNone false f)) :=
  (pe_cmpR op_isN ha pe_non (nomark _)).imp fun σ H Q h => by
    obtain ⟨c, hs, oa, sl, w, sv, b, w', S, e, q⟩ := h
    unfold xNone at e
    split at e
    · rename_i p w1 e1
      cases e
      refine ⟨c, hs, oa, sl, w, _, w', S, e1, fun v H1 hs1 S1 x1 sb1 r1 => ⟨rfl, ?_⟩⟩
      rw [repR_non r1]
      exact q _ H1 hs1 S1 x1 sb1 (by rw [Bool.false_xor]; exact resE_bool)
    · cases e
theorem pE_notNone {X : Cx} {a : Expr} {f : Rx} {j : Nat} {p pos : Pos} (ha : PE X a (tR (gd X) f)) : PE X (.Compare a [.IsNot] [.Constant .none j p] pos) (tE (gd X) (xNone true f)) :=
  (pe_cmpR op_notN ha pe_non (nomark _)).imp fun σ H Q h => by
    obtain ⟨c, hs, oa, sl, w, sv, b, w', S, e, q⟩ := h
    unfold xNone at e
    split at e
    · rename_i p w1 e1
      cases e
      refine ⟨c, hs, oa, sl, w, _, w', S, e1, fun v H1 hs1 S1 x1 sb1 r1 => ⟨rfl, ?_⟩⟩
      rw [repR_non r1]
      exact q _ H1 hs1 S1 x1 sb1 (by rw [Bool.true_xor]; exact resE_bool)
    · cases e
/-- is not True, is not False: of a truth -/
def xIsB (neg k : Bool) (f : Rx) : Ex := fun sl w => match f sl w with
  | some (.d (.bool b), w1) => some ((.d (.bool (neg ^^ decide (b = k))), false), w1)
  | _ => none
theorem pE_isB {X : Cx} {a : Expr} {f : Rx} {j : Nat} {k : Bool} {p pos : Pos} (ha : PE X a (tR (gd X) f)) : PE X (.Compare a [.Is] [.Constant (.bool k) j p] pos) (tE (gd X) (xIsB false k f)) :=
  (pe_cmpR op_isBl ha pe_bl (nomark _)).imp fun σ H Q h => by
    obtain ⟨c, hs, oa, sl, w, sv, b, w', S, e, q⟩ := h
    unfold xIsB at e
    split at e
    · rename_i b2 w1 e1
      cases e
      refine ⟨c, hs, oa, sl, w, _, w', S, e1, fun v H1 hs1 S1 x1 sb1 r1 => ⟨b2, k, repR_bool r1, rfl, ?_⟩⟩
      exact q _ H1 hs1 S1 x1 sb1 (by rw [Bool.false_xor]; exact resE_bool)
    · cases e
theorem pE_notB {X : Cx} {a : Expr} {f : Rx} {j : Nat} {k : Bool} {p pos : Pos} (ha : PE X a (tR (gd X) f)) : PE X (.Compare a [.IsNot] [.Constant (.bool k) j p] pos) (tE (gd X) (xIsB true k f)) :=
  (pe_cmpR op_notBl ha pe_bl (nomark _)).imp fun σ H Q h => by
    obtain ⟨c, hs, oa, sl, w, sv, b, w', S, e, q⟩ := h
    unfold xIsB at e
    split at e
    · rename_i b2 w1 e1
      cases e
      refine ⟨c, hs, oa, sl, w, _, w', S, e1, fun v H1 hs1 S1 x1 sb1 r1 => ⟨b2, k, repR_bool r1, rfl, ?_⟩⟩
      exact q _ H1 hs1 S1 x1 sb1 (by rw [Bool.true_xor]; exact resE_bool)
    · cases e
end PI
/-! PI6: places, slices, and, or, not, a if t else b, tests. -/
namespace PI
open PySem PySem.Spec L2

section
variable {G : Gd} {hs : List Addr} {σ : L2.St} {H H' : Hp} {O : Addr → Prop}
theorem reps_atI {ps : List P} {xs : List V} {i : Int} {p : P} (h : Reps G H O ps xs) (e : atI ps i = some p) : ∃ v, atI xs i = some v ∧ Rep G H O p v := by
  unfold atI at e ⊢
  rw [reps_length h] at e
  cases q : ixN xs.length i with
  | none => rw [q] at e; cases e
  | some j =>
    rw [q] at e
    exact reps_get h e
/-! ### a place -/
def ixS (w : W) : SV → SV → Option SV
  | .d (.list ps), .d (.int i) => (atI ps i).map SV.d
  | .d (.tuple ps), .d (.int i) => (atI ps i).map SV.d
  | .h n, .d (.int i) => (match w.sto[n]? with
    | some ns => (atI ns i).map fun k => SV.d (.int k)
    | none => none)
  | .z ns, .d (.int i) => (atI ns i).map fun k => SV.d (.int k)
  | _, _ => none
def xIx (f g : Rx) : Ex := fun sl w => match f sl w with
  | some (s, w1) => (match g sl w1 with
    | some (t, w2) => (match ixS w2 s t with
      | some r => some ((r, false), w2)
      | none => none)
    | none => none)
  | none => none
theorem atI_ints {ns : List Int} {i k : Int} (h : atI ns i = some k) : atI (ns.map V.int) i = some (.int k) := by
  unfold atI at h ⊢
  rw [List.length_map]
  cases q : ixN ns.length i with
  | none => rw [q] at h; cases h
  | some j =>
    rw [q] at h
    have h' : ns[j]? = some k := h
    show (ns.map V.int)[j]? = _
    rw [List.getElem?_map, h']; rfl
theorem tE_ix {G : Gd} {f g : Rx} {σ : L2.St} {H : Hp} {Q : VK} (h : tE G (xIx f g) σ H Q) : tOp (rIx G.K) (tR G f) (tR G g) σ H Q := by
  obtain ⟨c, hs, oa, sl, w, sv, b, w', S, e, q⟩ := h
  unfold xIx at e
  split at e
  · rename_i s w1 e1
    split at e
    · rename_i t w2 e2
      split at e
      · rename_i r e3
        cases e
        refine ⟨c, hs, oa, sl, w, _, w1, S, e1, fun v H1 hs1 S1 x1 sb1 r1 => ?_⟩
        refine ⟨c, hs1, oa, sl, w1, _, w', S1, e2, fun u H2 hs2 S2 x2 sb2 r2 => ?_⟩
        have r1' := r1.keep x2 (x2.keep sb2)
        have fin : ∀ z, RepS G H2 hs2 (Off c hs2 w'.own oa) sv z → Q z H2 := fun z rz => q z H2 hs2 S2 (x1.trans x2) (sb1.trans sb2) (resE_rep rz)
        unfold ixS at e3
        split at e3
        · obtain ⟨p, e4, rfl⟩ := Option.map_eq_some_iff.mp e3
          obtain ⟨a, xs, rfl, ta, ra⟩ := repR_list r1'
          obtain ⟨z, e5, rz⟩ := reps_atI ra e4
          exact .inl ⟨a, xs, _, z, rfl, repR_int r2, .inl (.inl ta), e5, fin z rz⟩
        · obtain ⟨p, e4, rfl⟩ := Option.map_eq_some_iff.mp e3
          obtain ⟨a, xs, rfl, ta, ra⟩ := repR_tup r1'
          obtain ⟨z, e5, rz⟩ := reps_atI ra e4
          exact .inr (.inl ⟨a, xs, _, z, rfl, repR_int r2, ta.sq, e5, fin z rz⟩)
        · rename_i n i
          split at e3
          · rename_i ns e6
            obtain ⟨p, e4, rfl⟩ := Option.map_eq_some_iff.mp e3
            obtain ⟨a, ha, ea⟩ := S2.sto.2 n ns e6
            rcases r1' with ⟨a', rfl, ha'⟩ | ⟨_, _, _, z⟩
            · rw [ha] at ha'; cases ha'
              exact .inl ⟨a, _, _, _, rfl, repR_int r2, .inl (.inl ea), atI_ints e4, fin _ (by show Rep _ _ _ _ _; rw [Rep])⟩
            · exact z.elim
          · cases e3
        · obtain ⟨p, e4, rfl⟩ := Option.map_eq_some_iff.mp e3
          rcases r1' with ⟨a', rfl, ha'⟩ | ⟨_, _, _, z⟩
          · exact .inl ⟨a', _, _, _, rfl, repR_int r2, ha'.sq, atI_ints e4, fin _ (by show Rep _ _ _ _ _; rw [Rep])⟩
          · exact z.elim
        · cases e3
      · cases e
    · cases e
  · cases e
theorem pE_ix {X : Cx} {a b : Expr} {f g : Rx} {pos : Pos} (ha : PE X a (tR (gd X) f)) (hb : PE X b (tR (gd X) g)) (hs : PlainIx b) : PE X (.Subscript a b pos) (tE (gd X) (xIx f g)) := (pe_ix ix_seq ha hb hs).imp fun σ H Q h => tE_ix h

/-! ### slices -/
def cutP {α : Type} (xs : List α) (lo hi : Option Int) : List α := (xs.drop (HT.sIx xs.length 0 lo)).take (HT.sIx xs.length xs.length hi - HT.sIx xs.length 0 lo)
theorem reps_cut {ps : List P} {xs : List V} (h : Reps G H O ps xs) (lo hi : Option Int) : Reps G H O (cutP ps lo hi) (cutV xs lo hi) := by
  unfold cutP cutV
  rw [reps_length h]
  exact reps_take _ (reps_drop _ h)
/-- a part of a slice, or none -/
def evP : Option Rx → Slots → W → Option (Option Int × W)
  | none, _, w => some (none, w)
  | some f, sl, w => match f sl w with
    | some (.d (.int i), w1) => some (some i, w1)
    | _ => none
def slS : SV → Option Int → Option Int → Option (SV × Bool)
  | .d (.list ps), lo, hi => some (.d (.list (cutP ps lo hi)), true)
  | .d (.tuple ps), lo, hi => some (.d (.tuple (cutP ps lo hi)), false)
  | _, _, _ => none
def xSl (f : Rx) (lo hi : Option Rx) : Ex := fun sl w => match f sl w with
  | some (s, w1) => (match evP lo sl w1 with
    | some (i, w2) => (match evP hi sl w2 with
      | some (j, w3) => (match slS s i j with
        | some r => some (r, w3)
        | none => none)
      | none => none)
    | none => none)
  | none => none
def tPt (G : Gd) (f : Option Rx) : TO := fun σ H Q => ∃ c hs oa sl w i w', SRel G c hs oa sl w σ H ∧ evP f sl w = some (i, w') ∧
  ∀ H' hs', SRel G c hs' oa sl w' σ H' → Ext hs H hs' H' → Sub w' w → Q i H'
theorem _root_.L2.PO.imp {X : Cx} {e : Option Expr} {t t' : TO} (h : PO X e t) (k : ∀ σ H Q, t' σ H Q → t σ H Q) : PO X e t' := ⟨fun pins s σ H Q I q => h.run pins s σ H Q I (k σ H Q q)⟩
theorem pO_none {X : Cx} : PO X none (tPt (gd X) none) := po_none.imp fun σ H Q h => by
  obtain ⟨c, hs, oa, sl, w, i, w', S, e, q⟩ := h
  cases e
  exact q H hs S .refl .refl
theorem pO_some {X : Cx} {e : Expr} {f : Rx} (h : PE X e (tR (gd X) f)) : PO X (some e) (tPt (gd X) (some f)) := (po_some h).imp fun σ H Q h => by
  obtain ⟨c, hs, oa, sl, w, i, w', S, e, q⟩ := h
  simp only [evP] at e
  split at e
  · rename_i i1 w1 e1
    cases e
    exact ⟨c, hs, oa, sl, w, _, w', S, e1, fun v H1 hs1 S1 x1 sb1 r1 => ⟨i1, repR_int r1, q H1 hs1 S1 x1 sb1⟩⟩
  · cases e
def rSlP (K : PySem.W.Frag) : V → Option Int → Option Int → Hp → VK → Prop := fun x lo hi H Q => rSlL K x lo hi H Q ∨ rSlA K x lo hi H Q
theorem sl_P {X : Cx} : SlR X (rSlP X.K) := sl_list.or sl_tupA
theorem tE_sl {G : Gd} {f : Rx} {lo hi : Option Rx} {σ : L2.St} {H : Hp} {Q : VK} (h : tE G (xSl f lo hi) σ H Q) : L2.tSl (rSlP G.K) (tR G f) (tPt G lo) (tPt G hi) σ H Q := by
  obtain ⟨c, hs, oa, sl, w, sv, b, w', S, e, q⟩ := h
  unfold xSl at e
  split at e
  · rename_i s w1 e1
    split at e
    · rename_i i w2 e2
      split at e
      · rename_i j w3 e3
        split at e
        · rename_i r e4
          cases e
          refine ⟨c, hs, oa, sl, w, _, w1, S, e1, fun v H1 hs1 S1 x1 sb1 r1 => ?_⟩
          refine ⟨c, hs1, oa, sl, w1, i, w2, S1, e2, fun H2 hs2 S2 x2 sb2 => ?_⟩
          refine ⟨c, hs2, oa, sl, w2, j, w', S2, e3, fun H3 hs3 S3 x3 sb3 => ?_⟩
          have r3 := (r1.keep x2 (x2.keep sb2)).keep x3 (x3.keep sb3)
          have x := (x1.trans x2).trans x3
          have sb := (sb1.trans sb2).trans sb3
          have ho : ∀ a, a ∈ hs3 → ∃ u, H3 a = some u := fun a ha => S3.off_some (.inr (.inl ha))
          have fin : ∀ z H4, Same H3 H4 → ResE G H3 H4 hs3 (Off c hs3 w'.own oa) sv b z → Q z H4 := fun z H4 sm rz =>
            q z H4 hs3 (S3.grow sm) (x.trans (.grow sm)) sb (rz.back x)
          unfold slS at e4
          split at e4
          · cases e4
            obtain ⟨a, xs, rfl, ta, ra⟩ := repR_list r3
            exact .inl ⟨a, xs, rfl, .inl (.inl ta), fun p hp => fin _ _ (same_new hp) (resE_list hp ho (reps_cut ra i j))⟩
          · rename_i ps
            cases e4
            obtain ⟨a, xs, rfl, ta, ra⟩ := repR_tup r3
            refine .inr ⟨a, xs, rfl, ta.sq, fun e0 => fin _ H3 (Same.refl _) (resE_rep ?_), fun _ p hp => fin _ _ (same_new hp) (resE_tup hp (reps_cut ra i j))⟩
            show Rep _ _ _ _ _
            rw [Rep]
            refine ⟨a, xs, rfl, ta, ?_⟩
            have : cutP ps i j = ps := by
              unfold cutP
              rw [reps_length ra, e0.1, e0.2]
              rw [List.drop_zero, Nat.sub_zero, ← reps_length ra, List.take_length]
            rw [this]; exact ra
          · cases e4
        · cases e
      · cases e
    · cases e
  · cases e
theorem pE_sl {X : Cx} {a : Expr} {lo hi : Option Expr} {f : Rx} {l h : Option Rx} {p2 pos : Pos} (ha : PE X a (tR (gd X) f)) (hl : PO X lo (tPt (gd X) l)) (hh : PO X hi (tPt (gd X) h)) : PE X (.Subscript a (.Slice lo hi none p2) pos) (tE (gd X) (xSl f l h)) :=
  (pe_slice sl_P ha hl hh).imp fun σ H Q h => tE_sl h
/-- xs[::-1] of a list -/
def xRev (f : Rx) : Ex := fun sl w => match f sl w with
  | some (.d (.list ps), w1) => some ((.d (.list ps.reverse), true), w1)
  | _ => none
theorem pE_rev {X : Cx} {a : Expr} {f : Rx} {k : Nat} {p1 p2 p3 pos : Pos} (ha : PE X a (tR (gd X) f)) : PE X (.Subscript a (.Slice none none (some (.UnaryOp .USub (.Constant (.int 1) k p1) p2)) p3) pos) (tE (gd X) (xRev f)) :=
  (pe_revL ha).imp fun σ H Q h => by
    obtain ⟨c, hs, oa, sl, w, sv, b, w', S, e, q⟩ := h
    unfold xRev at e
    split at e
    · rename_i ps w1 e1
      cases e
      refine ⟨c, hs, oa, sl, w, _, w', S, e1, fun v H1 hs1 S1 x1 sb1 r1 => ?_⟩
      obtain ⟨a, xs, rfl, ta, ra⟩ := repR_list r1
      refine ⟨a, xs, rfl, .inl (.inl ta), fun p hp => ?_⟩
      have sm := same_new (o := .lst xs.reverse) hp
      exact q _ _ hs1 (S1.grow sm) (x1.trans (.grow sm)) sb1 ((resE_list hp (fun a ha => S1.off_some (.inr (.inl ha))) (reps_reverse ra)).back x1)
    · cases e
end

/-! ### tests -/
abbrev Bx := Slots → W → Option (Bool × W)
def tC' (G : Gd) (f : Bx) : TT := fun σ H Q => ∃ c hs oa sl w b w', SRel G c hs oa sl w σ H ∧ f sl w = some (b, w') ∧
  ∀ H' hs', SRel G c hs' oa sl w' σ H' → Ext hs H hs' H' → Sub w' w → Q b H'
theorem _root_.L2.PT.imp {X : Cx} {e : Expr} {t t' : TT} (h : PT X e t) (k : ∀ σ H Q, t' σ H Q → t σ H Q) : PT X e t' := ⟨fun pins s σ H Q I q => h.run pins s σ H Q I (k σ H Q q)⟩
theorem _root_.L2.PW.imp {X : Cx} {e : Expr} {t t' : TT} (h : PW X e t) (k : ∀ σ H Q, t' σ H Q → t σ H Q) : PW X e t' := ⟨fun wh pins s σ H Q I q => h.run wh pins s σ H Q I (k σ H Q q)⟩
/-- a truth told by an expression -/
def bOf (f : Ex) : Bx := fun sl w => match f sl w with
  | some ((.d (.bool b), _), w1) => some (b, w1)
  | _ => none
theorem tC_test {G : Gd} {f : Ex} {σ : L2.St} {H : Hp} {Q : Bool → Hp → Prop} (h : tC' G (bOf f) σ H Q) : tTest (tE G f) σ H Q := by
  obtain ⟨c, hs, oa, sl, w, b, w', S, e, q⟩ := h
  unfold bOf at e
  split at e
  · rename_i b1 b2 w1 e1
    cases e
    refine ⟨c, hs, oa, sl, w, _, b2, w', S, e1, fun v H1 hs1 S1 x1 sb1 r1 => ⟨b, ?_, q H1 hs1 S1 x1 sb1⟩⟩
    exact repR_bool (.inl (r1.rep S x1 sb1))
  · cases e
theorem pC_cmp {X : Cx} {a b : Expr} {op : CmpOp} {r2 : R2} {o : SV → SV → Option Bool} {f g : Rx} {pos : Pos} (hr : OpR X (compareOp op) r2) (hop : CmpSem (gd X) o r2) (ha : PE X a (tR (gd X) f)) (hb : PE X b (tR (gd X) g)) (hm : behindInMarks op b = false) :
    PT X (.Compare a [op] [b] pos) (tC' (gd X) (bOf (xCmp o f g))) := (pt_cmpR hr ha hb hm).imp fun σ H Q h => by
  obtain ⟨c, hs, oa, sl, w, b, w', S, e, q⟩ := h
  have h2 : tTest (tE (gd X) (xCmp o f g)) σ H Q := tC_test ⟨c, hs, oa, sl, w, b, w', S, e, q⟩
  exact tE_cmp hop h2
def bNot (f : Bx) : Bx := fun sl w => match f sl w with
  | some (b, w1) => some (!b, w1)
  | none => none
theorem pC_not {X : Cx} {a : Expr} {f : Bx} {pos : Pos} (h : PT X a (tC' (gd X) f)) : PT X (.UnaryOp .Not a pos) (tC' (gd X) (bNot f)) := (pt_not h).imp fun σ H Q h => by
  obtain ⟨c, hs, oa, sl, w, b, w', S, e, q⟩ := h
  unfold bNot at e
  split at e
  · rename_i b1 w1 e1
    cases e
    exact ⟨c, hs, oa, sl, w, b1, w', S, e1, q⟩
  · cases e
def bAnd : List Bx → Bx
  | [], _, w => some (true, w)
  | [f], sl, w => f sl w
  | f :: g :: fs, sl, w => match f sl w with
    | some (true, w1) => bAnd (g :: fs) sl w1
    | some (false, w1) => some (false, w1)
    | none => none
def bOr : List Bx → Bx
  | [], _, w => some (false, w)
  | [f], sl, w => f sl w
  | f :: g :: fs, sl, w => match f sl w with
    | some (false, w1) => bOr (g :: fs) sl w1
    | some (true, w1) => some (true, w1)
    | none => none
/-- each of a list's tests -/
inductive Tests (X : Cx) : List Expr → List Bx → Prop
  | nil : Tests X [] []
  | cons {e : Expr} {f : Bx} {es : List Expr} {fs : List Bx} : PT X e (tC' (gd X) f) → Tests X es fs → Tests X (e :: es) (f :: fs)
theorem pW_and {X : Cx} {pos : Pos} : ∀ {es : List Expr} {fs : List Bx}, es ≠ [] → Tests X es fs → PW X (.BoolOp .And es pos) (tC' (gd X) (bAnd fs))
  | [], _, n, _ => absurd rfl n
  | [e], _, _, .cons h .nil => (pw_and1 h).imp fun σ H Q h => h
  | e :: e2 :: es, _, _, .cons (f := f) h (.cons (f := g) (fs := fs) h2 r) => (pw_and h (pW_and (by simp) (.cons h2 r))).imp fun σ H Q q => by
    obtain ⟨c, hs, oa, sl, w, b, w', S, e, q⟩ := q
    unfold bAnd at e
    split at e
    · rename_i w1 e1
      refine ⟨c, hs, oa, sl, w, _, w1, S, e1, fun H1 hs1 S1 x1 sb1 => ?_⟩
      exact iteT ⟨c, hs1, oa, sl, w1, b, w', S1, e, fun H2 hs2 S2 x2 sb2 => q H2 hs2 S2 (x1.trans x2) (sb1.trans sb2)⟩
    · rename_i w1 e1
      cases e
      exact ⟨c, hs, oa, sl, w, _, w', S, e1, fun H1 hs1 S1 x1 sb1 => iteF (q H1 hs1 S1 x1 sb1)⟩
    · cases e
theorem pW_or {X : Cx} {pos : Pos} : ∀ {es : List Expr} {fs : List Bx}, es ≠ [] → Tests X es fs → PW X (.BoolOp .Or es pos) (tC' (gd X) (bOr fs))
  | [], _, n, _ => absurd rfl n
  | [e], _, _, .cons h .nil => (pw_or1 h).imp fun σ H Q h => h
  | e :: e2 :: es, _, _, .cons (f := f) h (.cons (f := g) (fs := fs) h2 r) => (pw_or h (pW_or (by simp) (.cons h2 r))).imp fun σ H Q q => by
    obtain ⟨c, hs, oa, sl, w, b, w', S, e, q⟩ := q
    unfold bOr at e
    split at e
    · rename_i w1 e1
      refine ⟨c, hs, oa, sl, w, _, w1, S, e1, fun H1 hs1 S1 x1 sb1 => ?_⟩
      exact iteF ⟨c, hs1, oa, sl, w1, b, w', S1, e, fun H2 hs2 S2 x2 sb2 => q H2 hs2 S2 (x1.trans x2) (sb1.trans sb2)⟩
    · rename_i w1 e1
      cases e
      exact ⟨c, hs, oa, sl, w, _, w', S, e1, fun H1 hs1 S1 x1 sb1 => iteT (q H1 hs1 S1 x1 sb1)⟩
    · cases e
/-- as values: each tells a truth -/
def xB (f : Bx) : Ex := fun sl w => match f sl w with
  | some (b, w1) => some ((.d (.bool b), false), w1)
  | none => none
def xAnd : List Ex → Bx
  | [], _, w => some (true, w)
  | [f], sl, w => bOf f sl w
  | f :: g :: fs, sl, w => match bOf f sl w with
    | some (true, w1) => xAnd (g :: fs) sl w1
    | some (false, w1) => some (false, w1)
    | none => none
def xOr : List Ex → Bx
  | [], _, w => some (false, w)
  | [f], sl, w => bOf f sl w
  | f :: g :: fs, sl, w => match bOf f sl w with
    | some (false, w1) => xOr (g :: fs) sl w1
    | some (true, w1) => some (true, w1)
    | none => none
inductive Exprs (X : Cx) : List Expr → List Ex → Prop
  | nil : Exprs X [] []
  | cons {e : Expr} {f : Ex} {es : List Expr} {fs : List Ex} : PE X e (tE (gd X) f) → Exprs X es fs → Exprs X (e :: es) (f :: fs)
theorem tE_one {G : Gd} {f : Ex} {σ : L2.St} {H : Hp} {Q : VK} (h : tE G (xB (bOf f)) σ H Q) : tE G f σ H Q := by
  obtain ⟨c, hs, oa, sl, w, sv, b, w', S, e, q⟩ := h
  unfold xB bOf at e
  cases e1 : f sl w with
  | none => rw [e1] at e; cases e
  | some r =>
    obtain ⟨⟨s1, b1⟩, w1⟩ := r
    rw [e1] at e
    cases s1 with
    | d p => cases p with
      | bool k =>
        cases e
        refine ⟨c, hs, oa, sl, w, _, b1, w', S, e1, fun v H1 hs1 S1 x1 sb1 r1 => q v H1 hs1 S1 x1 sb1 (resE_rep (r1.rep S x1 sb1))⟩
      | _ => cases e
    | _ => cases e
theorem pE_and {X : Cx} {pos : Pos} : ∀ {es : List Expr} {fs : List Ex}, es ≠ [] → Exprs X es fs → PE X (.BoolOp .And es pos) (tE (gd X) (xB (xAnd fs)))
  | [], _, n, _ => absurd rfl n
  | [e], _, _, .cons h .nil => (pe_one h).imp fun σ H Q h => tE_one h
  | e :: e2 :: es, _, _, .cons (f := f) h (.cons (f := g) (fs := fs) h2 r) => (pe_and h (pE_and (by simp) (.cons h2 r))).imp fun σ H Q q => by
    obtain ⟨c, hs, oa, sl, w, sv, b, w', S, e, q⟩ := q
    unfold xB xAnd at e
    cases e0 : bOf f sl w with
    | none => rw [e0] at e; cases e
    | some r =>
      obtain ⟨k, w1⟩ := r
      rw [e0] at e
      have e1 : ∃ b1, f sl w = some ((.d (.bool k), b1), w1) := by
        unfold bOf at e0
        split at e0
        · rename_i b2 b3 w3 e2; cases e0; exact ⟨_, e2⟩
        · cases e0
      obtain ⟨b1, e1⟩ := e1
      refine ⟨c, hs, oa, sl, w, _, b1, w1, S, e1, fun v H1 hs1 S1 x1 sb1 r1 => ⟨k, repR_bool (.inl (r1.rep S x1 sb1)), ?_⟩⟩
      cases k with
      | true => exact iteT ⟨c, hs1, oa, sl, w1, sv, b, w', S1, by unfold xB; exact e, fun v H2 hs2 S2 x2 sb2 r2 => q v H2 hs2 S2 (x1.trans x2) (sb1.trans sb2) (r2.back x1 (fun a ha => x2.pre.subset ha))⟩
      | false => cases e; exact iteF (q _ H1 hs1 S1 x1 sb1 resE_bool)
theorem pE_or {X : Cx} {pos : Pos} : ∀ {es : List Expr} {fs : List Ex}, es ≠ [] → Exprs X es fs → PE X (.BoolOp .Or es pos) (tE (gd X) (xB (xOr fs)))
  | [], _, n, _ => absurd rfl n
  | [e], _, _, .cons h .nil => (pe_one h).imp fun σ H Q h => tE_one h
  | e :: e2 :: es, _, _, .cons (f := f) h (.cons (f := g) (fs := fs) h2 r) => (pe_or h (pE_or (by simp) (.cons h2 r))).imp fun σ H Q q => by
    obtain ⟨c, hs, oa, sl, w, sv, b, w', S, e, q⟩ := q
    unfold xB xOr at e
    cases e0 : bOf f sl w with
    | none => rw [e0] at e; cases e
    | some r =>
      obtain ⟨k, w1⟩ := r
      rw [e0] at e
      have e1 : ∃ b1, f sl w = some ((.d (.bool k), b1), w1) := by
        unfold bOf at e0
        split at e0
        · rename_i b2 b3 w3 e2; cases e0; exact ⟨_, e2⟩
        · cases e0
      obtain ⟨b1, e1⟩ := e1
      refine ⟨c, hs, oa, sl, w, _, b1, w1, S, e1, fun v H1 hs1 S1 x1 sb1 r1 => ⟨k, repR_bool (.inl (r1.rep S x1 sb1)), ?_⟩⟩
      cases k with
      | false => exact iteF ⟨c, hs1, oa, sl, w1, sv, b, w', S1, by unfold xB; exact e, fun v H2 hs2 S2 x2 sb2 r2 => q v H2 hs2 S2 (x1.trans x2) (sb1.trans sb2) (r2.back x1 (fun a ha => x2.pre.subset ha))⟩
      | true => cases e; exact iteT (q _ H1 hs1 S1 x1 sb1 resE_bool)
theorem pE_not {X : Cx} {a : Expr} {f : Ex} {pos : Pos} (h : PE X a (tE (gd X) f)) : PE X (.UnaryOp .Not a pos) (tE (gd X) (xB (bNot (bOf f)))) := (pe_not h).imp fun σ H Q q => by
  obtain ⟨c, hs, oa, sl, w, sv, b, w', S, e, q⟩ := q
  unfold xB bNot at e
  cases e0 : bOf f sl w with
  | none => rw [e0] at e; cases e
  | some r =>
    obtain ⟨k, w1⟩ := r
    rw [e0] at e
    cases e
    have e1 : ∃ b1, f sl w = some ((.d (.bool k), b1), w') := by
      unfold bOf at e0
      split at e0
      · rename_i b2 b3 w3 e2; cases e0; exact ⟨_, e2⟩
      · cases e0
    obtain ⟨b1, e1⟩ := e1
    exact ⟨c, hs, oa, sl, w, _, b1, w', S, e1, fun v H1 hs1 S1 x1 sb1 r1 => ⟨k, repR_bool (.inl (r1.rep S x1 sb1)), q _ H1 hs1 S1 x1 sb1 resE_bool⟩⟩
/-- a if t else b -/
def xIf (t : Bx) (f g : Ex) : Ex := fun sl w => match t sl w with
  | some (true, w1) => f sl w1
  | some (false, w1) => g sl w1
  | none => none
theorem pE_if {X : Cx} {t a b : Expr} {h : Bx} {f g : Ex} {pos : Pos} (ht : PT X t (tC' (gd X) h)) (ha : PE X a (tE (gd X) f)) (hb : PE X b (tE (gd X) g)) : PE X (.IfExp t a b pos) (tE (gd X) (xIf h f g)) := (pe_ifExp ht ha hb).imp fun σ H Q q => by
  obtain ⟨c, hs, oa, sl, w, sv, b, w', S, e, q⟩ := q
  unfold xIf at e
  split at e
  · rename_i w1 e1
    exact ⟨c, hs, oa, sl, w, _, w1, S, e1, fun H1 hs1 S1 x1 sb1 => iteT ⟨c, hs1, oa, sl, w1, sv, b, w', S1, e, fun v H2 hs2 S2 x2 sb2 r2 => q v H2 hs2 S2 (x1.trans x2) (sb1.trans sb2) (r2.back x1 (fun a ha => x2.pre.subset ha))⟩⟩
  · rename_i w1 e1
    exact ⟨c, hs, oa, sl, w, _, w1, S, e1, fun H1 hs1 S1 x1 sb1 => iteF ⟨c, hs1, oa, sl, w1, sv, b, w', S1, e, fun v H2 hs2 S2 x2 sb2 r2 => q v H2 hs2 S2 (x1.trans x2) (sb1.trans sb2) (r2.back x1 (fun a ha => x2.pre.subset ha))⟩⟩
  · cases e
/-- -a -/
def xNeg (f : Rx) : Ex := fun sl w => match f sl w with
  | some (.d (.int i), w1) => some ((.d (.int (-i)), false), w1)
  | _ => none
theorem pE_neg {X : Cx} {a : Expr} {f : Rx} {pos : Pos} (h : PE X a (tR (gd X) f)) : PE X (.UnaryOp .USub a pos) (tE (gd X) (xNeg f)) := (pe_un un_neg h).imp fun σ H Q q => by
  obtain ⟨c, hs, oa, sl, w, sv, b, w', S, e, q⟩ := q
  unfold xNeg at e
  split at e
  · rename_i i w1 e1
    cases e
    exact ⟨c, hs, oa, sl, w, _, w', S, e1, fun v H1 hs1 S1 x1 sb1 r1 => ⟨i, repR_int r1, q _ H1 hs1 S1 x1 sb1 resE_int⟩⟩
  · cases e
end PI
/-! PI7: statements. -/
namespace PI
open PySem PySem.Spec L2

section
variable {G : Gd} {c : Cn} {hs hs' : List Addr} {oa oa' : Nat → Addr} {sl : Slots} {w w' : W} {σ : L2.St} {H H' : Hp} {O O' : Addr → Prop}
/-- an owned object, shared -/
theorem OwnAt.rep {sv : SV} {a : Addr} (h : OwnAt G H O sv a) (n : ¬ O' a) (l : ∀ b, O' b → O b) : RepS G H hs O' sv (.ref a) := by
  have k : Keep O H O' H := .less l
  cases sv with
  | d q => cases q with
    | list ds => obtain ⟨xs, e1, r⟩ := h; show Rep _ _ _ _ _; rw [Rep]; exact ⟨a, xs, rfl, n, e1, r.keep k _ _⟩
    | dict kvs => obtain ⟨ks, vs, u, e1, d, r1, r2⟩ := h; show Rep _ _ _ _ _; rw [Rep]; exact ⟨a, ks, vs, u, rfl, n, .inl e1, d, r1.keep k _ _, r2.keep k _ _⟩
    | _ => exact h.elim
  | s ps => exact ⟨a, rfl, n, h⟩
  | h n => exact h.elim
  | f x => exact h.elim
  | z ns => exact h.elim
/-- some of what is owned is shared -/
theorem SRel.sub {own : List Nat} (S : SRel G c hs oa sl w σ H) (hsb : ∀ i, i ∈ own → i ∈ w.own) (hn : own.Nodup) : SRel G c hs oa sl { w with own := own } σ H := by
  have less : ∀ a, Off c hs own oa a → Off c hs w.own oa a := fun a z => by
    rcases z with z | z | ⟨i, hi, z⟩
    · exact .inl z
    · exact .inr (.inl z)
    · exact .inr (.inr ⟨i, hsb i hi, z⟩)
  refine ⟨S.len, fun i sv e n => ?_, fun i hi => ?_, fun i hi j hj => S.inj i (hsb i hi) j (hsb j hj), fun i hi => S.new i (hsb i hi), hn, S.sto, S.hnd, fun i hi => S.hown i (hsb i hi), S.fd, S.ext, S.h0, S.hpre, S.tbl, S.tb⟩
  · by_cases hi : i ∈ w.own
    · obtain ⟨sv', e1, e2, o⟩ := S.owns i hi
      rw [e] at e1; cases e1
      refine ⟨_, e2, o.rep (fun z => ?_) less⟩
      rcases z with z | z | ⟨j, hj, z⟩
      · obtain ⟨⟨u, q⟩, _⟩ := S.fd _ z
        rw [S.new i hi] at q; cases q
      · exact S.hown i hi z
      · have := S.inj j (hsb j hj) i hi z
        subst this
        exact n hj
    · obtain ⟨v, e1, r⟩ := S.slot i sv e hi
      exact ⟨v, e1, r.keep (.less less) (List.prefix_refl _)⟩
  · obtain ⟨sv, e1, e2, o⟩ := S.owns i (hsb i hi)
    exact ⟨sv, e1, e2, o.keep (.less less) fun u e _ => e⟩
/-- a name gets a value that is not its own -/
theorem SRel.set {i : Nat} {sv : SV} {v : V} (S : SRel G c hs oa sl w σ H) (r : RepS G H hs (Off c hs (w.own.erase i) oa) sv v) : SRel G c hs oa (sl.set i (some sv)) { w with own := w.own.erase i } (σ.set i (some v)) H := by
  have S1 := S.give (k := i)
  have hne : ∀ j, j ∈ w.own.erase i → j ≠ i := fun j hj e => by
    subst e
    exact (List.Nodup.mem_erase_iff S.nd).mp hj |>.1 rfl
  refine ⟨by rw [List.length_set, List.length_set]; exact S.len, fun j sv' e n => ?_, fun j hj => ?_, S1.inj, S1.new, S1.nd, S1.sto, S1.hnd, S1.hown, S1.fd, S1.ext, S1.h0, S1.hpre, S1.tbl, S1.tb⟩
  · by_cases hj : i = j
    · subst hj
      by_cases hl : i < sl.length
      · rw [List.getElem?_set_self hl] at e
        cases e
        exact ⟨v, by rw [List.getElem?_set_self (by rw [← S.len]; exact hl)], r⟩
      · rw [List.getElem?_eq_none (by rw [List.length_set]; omega)] at e; cases e
    · rw [List.getElem?_set_ne hj] at e ⊢
      exact S1.slot j sv' e n
  · have := hne j hj
    rw [List.getElem?_set_ne (Ne.symm this), List.getElem?_set_ne (Ne.symm this)]
    exact S1.owns j hj
/-- what was there ahead of an expression leads to nothing that is new -/
theorem SRel.apart {p : Addr} (S : SRel G c hs oa sl w σ H) (x : Ext hs H hs' H') (S' : SRel G c hs' oa sl w' σ H') (sb : Sub w' w) (hp : H p = none) :
    (∀ (i : Nat) (sv : SV), sl[i]? = some (some sv) → i ∉ w'.own → ∃ v, σ[i]? = some (some v) ∧ RepS G H' hs' (fun a => Off c hs' w'.own oa a ∨ a = p) sv v) ∧
    (∀ i, i ∈ w'.own → ∃ sv, sl[i]? = some (some sv) ∧ σ[i]? = some (some (.ref (oa i))) ∧ oa i ≠ p ∧ OwnAt G H' (fun a => Off c hs' w'.own oa a ∨ a = p) sv (oa i)) := by
  have S2 := S.sub sb S'.nd
  have k : Keep (Off c hs w'.own oa) H (fun a => Off c hs' w'.own oa a ∨ a = p) H' := by
    refine ⟨fun a u n q t => x.same a u (fun z => n (.inr (.inl z))) q t, x.tup, x.frz, fun a u n q z => ?_, x.tbl, x.tb⟩
    rcases z with z | z
    · rcases z with z | z | z
      · exact n (.inl z)
      · rcases x.new a z with z | z
        · exact n (.inr (.inl z))
        · rw [z] at q; cases q
      · exact n (.inr (.inr z))
    · subst z; rw [hp] at q; cases q
  refine ⟨fun i sv e n => ?_, fun i hi => ?_⟩
  · obtain ⟨v, e1, r⟩ := S2.slot i sv e n
    exact ⟨v, e1, r.keep k x.pre⟩
  · obtain ⟨sv, e1, e2, o⟩ := S2.owns i hi
    obtain ⟨u, hu⟩ := o.some
    refine ⟨sv, e1, e2, fun z => ?_, o.keep k fun u q t => x.same _ u (S2.hown i hi) q t⟩
    rw [z, hp] at hu; cases hu
def oaSet (oa : Nat → Addr) (i : Nat) (p : Addr) : Nat → Addr := fun j => if j = i then p else oa j
theorem oaSet_same {oa : Nat → Addr} {i : Nat} {p : Addr} : oaSet oa i p i = p := if_pos rfl
theorem oaSet_ne {oa : Nat → Addr} {i j : Nat} {p : Addr} (h : j ≠ i) : oaSet oa i p j = oa j := if_neg h
/-- a name gets a new object as its own -/
theorem SRel.setOwn {i : Nat} {sv : SV} {v : V} (hl : i < sl.length) (S : SRel G c hs oa sl w σ H) (x : Ext hs H hs' H') (S' : SRel G c hs' oa sl w' σ H') (sb : Sub w' w) (f : Fresh G H H' hs' (Off c hs' w'.own oa) sv v) :
    ∃ oa', SRel G c hs' oa' (sl.set i (some sv)) { w' with own := i :: w'.own.erase i } (σ.set i (some v)) H' ∧ Keep (Off c hs w.own oa) H (Off c hs' (i :: w'.own.erase i) oa') H' := by
  obtain ⟨p, rfl, hp, hh, o⟩ := f
  obtain ⟨k1, k2⟩ := S.apart x S' sb hp
  have he : c.He p = none := by
    cases q : c.He p with
    | none => rfl
    | some u =>
      by_cases hm : p ∈ hs
      · exact absurd (x.pre.subset hm) hh
      · obtain ⟨u', e'⟩ := S.any hm q
        rw [e'] at hp; cases hp
  have hne : ∀ j, j ∈ w'.own.erase i → j ≠ i := fun j hj e => by
    subst e
    exact (List.Nodup.mem_erase_iff S'.nd).mp hj |>.1 rfl
  have less : ∀ a, Off c hs' (i :: w'.own.erase i) (oaSet oa i p) a → Off c hs' w'.own oa a ∨ a = p := fun a z => by
    rcases z with z | z | ⟨j, hj, z⟩
    · exact .inl (.inl z)
    · exact .inl (.inr (.inl z))
    · rcases List.mem_cons.mp hj with e | hj
      · subst e
        rw [oaSet_same] at z
        exact .inr z.symm
      · rw [oaSet_ne (hne j hj)] at z
        exact .inl (.inr (.inr ⟨j, List.mem_of_mem_erase hj, z⟩))
  refine ⟨oaSet oa i p, ⟨by rw [List.length_set, List.length_set]; exact S.len, fun j sv' e n => ?_, fun j hj => ?_, fun j hj k hk e => ?_, fun j hj => ?_, ?_, S'.sto, S'.hnd, fun j hj => ?_, S'.fd, S'.ext, S'.h0, S'.hpre, S'.tbl, S'.tb⟩, ?_⟩
  · have hj : i ≠ j := fun e => n (by rw [e]; exact List.mem_cons_self)
    rw [List.getElem?_set_ne hj] at e ⊢
    have n2 : j ∉ w'.own := fun z => n (List.mem_cons_of_mem _ ((List.mem_erase_of_ne (Ne.symm hj)).mpr z))
    obtain ⟨v, e1, r⟩ := k1 j sv' e n2
    exact ⟨v, e1, r.keep (.less less) (List.prefix_refl _)⟩
  · rcases List.mem_cons.mp hj with e | hj
    · subst e
      refine ⟨sv, by rw [List.getElem?_set_self hl], by rw [List.getElem?_set_self (by rw [← S.len]; exact hl), oaSet_same], ?_⟩
      rw [oaSet_same]
      exact o.keep (.less less) fun u e _ => e
    · have h1 := hne j hj
      obtain ⟨sv', e1, e2, _, o'⟩ := k2 j (List.mem_of_mem_erase hj)
      rw [List.getElem?_set_ne (Ne.symm h1), List.getElem?_set_ne (Ne.symm h1), oaSet_ne h1]
      exact ⟨sv', e1, e2, o'.keep (.less less) fun u e _ => e⟩
  · rcases List.mem_cons.mp hj with e1 | hj <;> rcases List.mem_cons.mp hk with e2 | hk
    · rw [e1, e2]
    · subst e1
      rw [oaSet_same, oaSet_ne (hne k hk)] at e
      obtain ⟨_, _, _, z, _⟩ := k2 k (List.mem_of_mem_erase hk)
      exact absurd e.symm z
    · subst e2
      rw [oaSet_same, oaSet_ne (hne j hj)] at e
      obtain ⟨_, _, _, z, _⟩ := k2 j (List.mem_of_mem_erase hj)
      exact absurd e z
    · rw [oaSet_ne (hne j hj), oaSet_ne (hne k hk)] at e
      exact S'.inj j (List.mem_of_mem_erase hj) k (List.mem_of_mem_erase hk) e
  · rcases List.mem_cons.mp hj with e1 | hj
    · subst e1; rw [oaSet_same]; exact he
    · rw [oaSet_ne (hne j hj)]; exact S'.new j (List.mem_of_mem_erase hj)
  · exact List.nodup_cons.mpr ⟨fun z => hne i z rfl, S'.nd.erase i⟩
  · rcases List.mem_cons.mp hj with e1 | hj
    · subst e1; rw [oaSet_same]; exact hh
    · rw [oaSet_ne (hne j hj)]; exact S'.hown j (List.mem_of_mem_erase hj)
  · refine ⟨fun a u n q t => x.same a u (fun z => n (.inr (.inl z))) q t, x.tup, x.frz, fun a u n q z => ?_, x.tbl, x.tb⟩
    rcases less a z with z | z
    · exact (x.keep sb).out a u n q z
    · subst z; rw [hp] at q; cases q
end

/-! ### statements -/
inductive Out where
  | nx | bk | ct
  | rt (sv : SV) (b : Bool)
abbrev Sx := Slots → W → Option (Out × Slots × W)
/-- what is handed back -/
def RetR (G : Gd) (c : Cn) (H' : Hp) (hs' : List Addr) (sv : SV) (b : Bool) (v : V) : Prop :=
  if b = true then ∃ p, v = .ref p ∧ c.He p = none ∧ p ∉ hs' ∧ OwnAt G H' (fun a => (c.F a ∨ a ∈ hs') ∨ a = p) sv p else RepS G H' hs' (fun a => c.F a ∨ a ∈ hs') sv v
def EndS (G : Gd) (c : Cn) (D : Ends) (σ' : L2.St) (H' : Hp) (hs' : List Addr) : Out → Prop
  | .nx => D.nx σ' H'
  | .bk => D.bk σ' H'
  | .ct => D.ct σ' H'
  | .rt sv b => ∀ v, RetR G c H' hs' sv b v → D.rt v H'
def tS (G : Gd) (f : Sx) : TS := fun D σ H => ∃ c hs oa sl w o sl' w', SRel G c hs oa sl w σ H ∧ f sl w = some (o, sl', w') ∧
  ∀ σ' H' hs' oa', SRel G c hs' oa' sl' w' σ' H' → Keep (Off c hs w.own oa) H (Off c hs' w'.own oa') H' → EndS G c D σ' H' hs' o
theorem _root_.L2.PS.imp {X : Cx} {e : Stmt} {t t' : TS} (h : PS X e t) (k : ∀ D σ H, t' D σ H → t D σ H) : PS X e t' := ⟨fun pins s σ H D I q => h.run pins s σ H D I (k D σ H q)⟩
theorem _root_.L2.PSs.imp {X : Cx} {e : List Stmt} {t t' : TS} (h : PSs X e t) (k : ∀ D σ H, t' D σ H → t D σ H) : PSs X e t' := ⟨fun pins s σ H D I q => h.run pins s σ H D I (k D σ H q)⟩
def sNil : Sx := fun sl w => some (.nx, sl, w)
def sSeq (f g : Sx) : Sx := fun sl w => match f sl w with
  | some (.nx, sl1, w1) => g sl1 w1
  | r => r
theorem pS_nil {X : Cx} : PSs X [] (tS (gd X) sNil) := pss_nil.imp fun D σ H h => by
  obtain ⟨c, hs, oa, sl, w, o, sl', w', S, e, q⟩ := h
  cases e
  exact q σ H hs oa S .refl
theorem tS_seq {G : Gd} {f g : Sx} {D : Ends} {σ : L2.St} {H : Hp} (h : tS G (sSeq f g) D σ H) : tSeq (tS G f) (tS G g) D σ H := by
  obtain ⟨c, hs, oa, sl, w, o, sl', w', S, e, q⟩ := h
  unfold sSeq at e
  split at e
  · rename_i sl1 w1 e1
    exact ⟨c, hs, oa, sl, w, _, sl1, w1, S, e1, fun σ1 H1 hs1 oa1 S1 k1 => ⟨c, hs1, oa1, sl1, w1, o, sl', w', S1, e, fun σ2 H2 hs2 oa2 S2 k2 => q σ2 H2 hs2 oa2 S2 (k1.trans k2)⟩⟩
  · rename_i hn
    refine ⟨c, hs, oa, sl, w, o, sl', w', S, e, fun σ1 H1 hs1 oa1 S1 k1 => ?_⟩
    have q1 := q σ1 H1 hs1 oa1 S1 k1
    cases o with
    | nx => exact absurd e (hn _ _)
    | bk => exact q1
    | ct => exact q1
    | rt sv b => exact q1
theorem pS_cons {X : Cx} {st : Stmt} {r : List Stmt} {f g : Sx} (h1 : PS X st (tS (gd X) f)) (h2 : PSs X r (tS (gd X) g)) : PSs X (st :: r) (tS (gd X) (sSeq f g)) := (pss_cons h1 h2).imp fun D σ H h => tS_seq h
def sOut (o : Out) : Sx := fun sl w => some (o, sl, w)
theorem pS_pass {X : Cx} {pos : Pos} : PS X (.Pass pos) (tS (gd X) (sOut .nx)) := ps_pass.imp fun D σ H h => by
  obtain ⟨c, hs, oa, sl, w, o, sl', w', S, e, q⟩ := h
  cases e; exact q σ H hs oa S .refl
theorem pS_break {X : Cx} {pos : Pos} : PS X (.Break pos) (tS (gd X) (sOut .bk)) := ps_break.imp fun D σ H h => by
  obtain ⟨c, hs, oa, sl, w, o, sl', w', S, e, q⟩ := h
  cases e; exact q σ H hs oa S .refl
theorem pS_cont {X : Cx} {pos : Pos} : PS X (.Continue pos) (tS (gd X) (sOut .ct)) := ps_continue.imp fun D σ H h => by
  obtain ⟨c, hs, oa, sl, w, o, sl', w', S, e, q⟩ := h
  cases e; exact q σ H hs oa S .refl
/-- return e -/
def sRet (f : Ex) : Sx := fun sl w => match f sl w with
  | some ((sv, b), w1) => some (.rt sv b, sl, w1)
  | none => none
theorem retR_of {G : Gd} {c : Cn} {hs hs' : List Addr} {oa : Nat → Addr} {sl : Slots} {w w' : W} {σ : L2.St} {H H' : Hp} {sv : SV} {b : Bool} {v : V} (S : SRel G c hs oa sl w σ H) (x : Ext hs H hs' H') (r : ResE G H H' hs' (Off c hs' w'.own oa) sv b v) : RetR G c H' hs' sv b v := by
  unfold RetR ResE at *
  split
  · rename_i hb
    rw [if_pos hb] at r
    obtain ⟨p, e, hp, hh, o⟩ := r
    refine ⟨p, e, ?_, hh, o.keep (.less fun a z => ?_) fun u e _ => e⟩
    · cases q : c.He p with
      | none => rfl
      | some u =>
        by_cases hm : p ∈ hs
        · exact absurd (x.pre.subset hm) hh
        · obtain ⟨u', e'⟩ := S.any hm q
          rw [e'] at hp; cases hp
    · rcases z with (z | z) | z
      · exact .inl (.inl z)
      · exact .inl (.inr (.inl z))
      · exact .inr z
  · rename_i hb
    rw [if_neg hb] at r
    exact r.keep (.less fun a z => z.elim .inl fun z => .inr (.inl z)) (List.prefix_refl _)
theorem pS_ret {X : Cx} {e : Expr} {f : Ex} {pos : Pos} (h : PE X e (tE (gd X) f)) : PS X (.Return (some e) pos) (tS (gd X) (sRet f)) := (ps_ret h).imp fun D σ H h => by
  obtain ⟨c, hs, oa, sl, w, o, sl', w', S, e, q⟩ := h
  unfold sRet at e
  split at e
  · rename_i sv b w1 e1
    cases e
    exact ⟨c, hs, oa, sl, w, sv, b, w', S, e1, fun v H1 hs1 S1 x1 sb1 r1 => q σ H1 hs1 oa S1 (x1.keep sb1) v (retR_of S x1 r1)⟩
  · cases e
/-- return x: what x owns goes along -/
def sRetV (i : Nat) : Sx := fun sl w => match sl[i]? with
  | some (some sv) => some (.rt sv (decide (i ∈ w.own)), sl, w)
  | _ => none
theorem tS_retV {G : Gd} {i : Nat} {D : Ends} {σ : L2.St} {H : Hp} (h : tS G (sRetV i) D σ H) : tRet (tVar i) D σ H := by
  obtain ⟨c, hs, oa, sl, w, o, sl', w', S, e, q⟩ := h
  unfold sRetV at e
  split at e
  · rename_i sv e1
    cases e
    by_cases hi : i ∈ w.own
    · obtain ⟨sv2, e2, e3, o⟩ := S.owns i hi
      rw [e1] at e2; cases e2
      refine ⟨_, e3, q σ H hs oa S .refl _ ?_⟩
      unfold RetR
      rw [if_pos (decide_eq_true hi)]
      refine ⟨oa i, rfl, S.new i hi, S.hown i hi, o.keep (.less fun a z => ?_) fun u e _ => e⟩
      rcases z with (z | z) | z
      · exact .inl z
      · exact .inr (.inl z)
      · exact .inr (.inr ⟨i, hi, z.symm⟩)
    · obtain ⟨v, e2, r⟩ := S.slot i sv e1 hi
      refine ⟨v, e2, q σ H hs oa S .refl _ ?_⟩
      unfold RetR
      rw [if_neg (by rw [decide_eq_true_eq]; exact hi)]
      exact r.keep (.less fun a z => z.elim .inl fun z => .inr (.inl z)) (List.prefix_refl _)
  · cases e
def sIf (t : Bx) (f g : Sx) : Sx := fun sl w => match t sl w with
  | some (true, w1) => f sl w1
  | some (false, w1) => g sl w1
  | none => none
theorem pS_if {X : Cx} {t : Expr} {a b : List Stmt} {h : Bx} {f g : Sx} {pos : Pos} (ht : PT X t (tC' (gd X) h)) (ha : PSs X a (tS (gd X) f)) (hb : PSs X b (tS (gd X) g)) : PS X (.If t a b pos) (tS (gd X) (sIf h f g)) := (ps_if ht ha hb).imp fun D σ H q => by
  obtain ⟨c, hs, oa, sl, w, o, sl', w', S, e, q⟩ := q
  unfold sIf at e
  split at e
  · rename_i w1 e1
    exact ⟨c, hs, oa, sl, w, _, w1, S, e1, fun H1 hs1 S1 x1 sb1 => iteT ⟨c, hs1, oa, sl, w1, o, sl', w', S1, e, fun σ2 H2 hs2 oa2 S2 k2 => q σ2 H2 hs2 oa2 S2 ((x1.keep sb1).trans k2)⟩⟩
  · rename_i w1 e1
    exact ⟨c, hs, oa, sl, w, _, w1, S, e1, fun H1 hs1 S1 x1 sb1 => iteF ⟨c, hs1, oa, sl, w1, o, sl', w', S1, e, fun σ2 H2 hs2 oa2 S2 k2 => q σ2 H2 hs2 oa2 S2 ((x1.keep sb1).trans k2)⟩⟩
  · cases e
/-- x = e -/
def sSet (i : Nat) (f : Ex) : Sx := fun sl w => match f sl w with
  | some ((sv, b), w1) => if i < sl.length then some (.nx, sl.set i (some sv), { w1 with own := if b = true then i :: w1.own.erase i else w1.own.erase i }) else none
  | none => none
theorem tS_set {G : Gd} {i : Nat} {f : Ex} {D : Ends} {σ : L2.St} {H : Hp} (h : tS G (sSet i f) D σ H) : tAsg (tE G f) (gName i) D σ H := by
  obtain ⟨c, hs, oa, sl, w, o, sl', w', S, e, q⟩ := h
  unfold sSet at e
  split at e
  · rename_i sv b w1 e1
    split at e
    · rename_i hl
      cases e
      refine ⟨c, hs, oa, sl, w, sv, b, w1, S, e1, fun v H1 hs1 S1 x1 sb1 r1 => ?_⟩
      cases b with
      | false =>
        have r : RepS G H1 hs1 (Off c hs1 w1.own oa) sv v := r1
        have less : ∀ a, Off c hs1 (w1.own.erase i) oa a → Off c hs1 w1.own oa a := fun a z => by
          rcases z with z | z | ⟨j, hj, z⟩
          · exact .inl z
          · exact .inr (.inl z)
          · exact .inr (.inr ⟨j, List.mem_of_mem_erase hj, z⟩)
        have S2 := S1.set (i := i) (r.keep (.less less) (List.prefix_refl _))
        exact q _ H1 hs1 oa S2 ((x1.keep sb1).trans (.less less))
      | true =>
        have r : Fresh G H H1 hs1 (Off c hs1 w1.own oa) sv v := r1
        obtain ⟨oa2, S2, k2⟩ := S.setOwn hl x1 S1 sb1 r
        exact q _ H1 hs1 oa2 S2 k2
    · cases e
  · cases e
end PI
/-! PI8: targets, loops. -/
namespace PI
open PySem PySem.Spec L2

/-! ### targets -/
abbrev Tx := SV → Slots → W → Option (Slots × W)
def tG (G : Gd) (g : Tx) : TG := fun v σ H Q => ∃ c hs oa sl w sv sl' w', SRel G c hs oa sl w σ H ∧ RepS G H hs (Off c hs w.own oa) sv v ∧ g sv sl w = some (sl', w') ∧
  ∀ σ' H' hs' oa', SRel G c hs' oa' sl' w' σ' H' → Keep (Off c hs w.own oa) H (Off c hs' w'.own oa') H' → hs <+: hs' → Q σ' H'
theorem _root_.L2.PG.imp {X : Cx} {e : Expr} {t t' : TG} (h : PG X e t) (k : ∀ v σ H Q, t' v σ H Q → t v σ H Q) : PG X e t' := ⟨fun pins s σ H v u Q I r q => h.run pins s σ H v u Q I r (k v σ H Q q)⟩
theorem _root_.L2.PGs.imp {X : Cx} {es : List Expr} {t t' : TGs} (h : PGs X es t) (k : ∀ v σ H Q, t' v σ H Q → t v σ H Q) : PGs X es t' := ⟨fun pins s σ H v u Q I r q => h.run pins s σ H v u Q I r (k v σ H Q q)⟩
/-- a plain name -/
def gV (i : Nat) : Tx := fun sv sl w => some (sl.set i (some sv), { w with own := w.own.erase i })
theorem off_erase {c : Cn} {hs : List Addr} {own : List Nat} {oa : Nat → Addr} {i : Nat} : ∀ a, Off c hs (own.erase i) oa a → Off c hs own oa a := fun a z => by
  rcases z with z | z | ⟨j, hj, z⟩
  · exact .inl z
  · exact .inr (.inl z)
  · exact .inr (.inr ⟨j, List.mem_of_mem_erase hj, z⟩)
theorem tG_v {G : Gd} {i : Nat} {v : V} {σ : L2.St} {H : Hp} {Q : L2.St → Hp → Prop} (h : tG G (gV i) v σ H Q) : gName i v σ H Q := by
  obtain ⟨c, hs, oa, sl, w, sv, sl', w', S, r, e, q⟩ := h
  cases e
  exact q _ H hs oa (S.set (r.keep (.less off_erase) (List.prefix_refl _))) (.less off_erase) (List.prefix_refl _)
/-- several targets -/
def gL : List Tx → List P → Slots → W → Option (Slots × W)
  | [], [], sl, w => some (sl, w)
  | g :: gs, p :: ps, sl, w => match g (.d p) sl w with
    | some (sl1, w1) => gL gs ps sl1 w1
    | none => none
  | _, _, _, _ => none
def tGs' (G : Gd) (gs : List Tx) : TGs := fun vs σ H Q => ∃ c hs oa sl w ps sl' w', SRel G c hs oa sl w σ H ∧ Reps G H (Off c hs w.own oa) ps vs ∧ gL gs ps sl w = some (sl', w') ∧
  ∀ σ' H' hs' oa', SRel G c hs' oa' sl' w' σ' H' → Keep (Off c hs w.own oa) H (Off c hs' w'.own oa') H' → hs <+: hs' → Q σ' H'
theorem pGs_nil {X : Cx} : PGs X [] (tGs' (gd X) []) := pgs_nil.imp fun vs σ H Q h => by
  obtain ⟨c, hs, oa, sl, w, ps, sl', w', S, r, e, q⟩ := h
  cases ps with
  | nil =>
    cases e
    rw [Reps] at r
    exact ⟨r, q σ H hs oa S .refl (List.prefix_refl _)⟩
  | cons p ps => cases e
theorem pGs_cons {X : Cx} {e : Expr} {es : List Expr} {g : Tx} {gs : List Tx} (h1 : PG X e (tG (gd X) g)) (h2 : PGs X es (tGs' (gd X) gs))
    (hs : (assignEach (e :: es) X.env).map (·.2) = assign e X.env :: (assignEach es X.env).map (·.2)) : PGs X (e :: es) (tGs' (gd X) (g :: gs)) := (pgs_cons h1 h2 hs).imp fun vs σ H Q h => by
  obtain ⟨c, hs, oa, sl, w, ps, sl', w', S, r, e, q⟩ := h
  cases ps with
  | nil => cases e
  | cons p ps =>
    unfold gL at e
    split at e
    · rename_i sl1 w1 e1
      rw [Reps] at r
      obtain ⟨x, xs, rfl, r1, r2⟩ := r
      refine ⟨x, xs, rfl, c, hs, oa, sl, w, .d p, sl1, w1, S, r1, e1, fun σ1 H1 hs1 oa1 S1 k1 p1 => ?_⟩
      exact ⟨c, hs1, oa1, sl1, w1, ps, sl', w', S1, r2.keep k1 _ _, e, fun σ2 H2 hs2 oa2 S2 k2 p2 => q σ2 H2 hs2 oa2 S2 (k1.trans k2) (p1.trans p2)⟩
    · cases e
/-- (a, b, ..) = a tuple or a list -/
def gT (gs : List Tx) : Tx := fun sv sl w => match sv with
  | .d (.tuple ps) => gL gs ps sl w
  | _ => none
theorem gL_length : ∀ {gs : List Tx} {ps : List P} {sl : Slots} {w : W} {r : Slots × W}, gL gs ps sl w = some r → ps.length = gs.length
  | [], [], _, _, _, _ => rfl
  | [], _ :: _, _, _, _, e => by cases e
  | _ :: _, [], _, _, _, e => by cases e
  | g :: gs, p :: ps, sl, w, r, e => by
    unfold gL at e
    split at e
    · rw [List.length_cons, List.length_cons, gL_length e]
    · cases e
theorem pG_tup {X : Cx} {es : List Expr} {k : Nat} {gs : List Tx} {pos : Pos} (hc : X.calm = true) (h : PGs X es (tGs' (gd X) gs))
    (hn : (assignEach es X.env).length = gs.length) (hst : (assignEach es X.env).findIdx? (·.1) = none) : PG X (.Tuple es k pos) (tG (gd X) (gT gs)) := (pg_tup hc h hn hst).imp fun v σ H Q h => by
  obtain ⟨c, hs, oa, sl, w, sv, sl', w', S, r, e, q⟩ := h
  unfold gT at e
  split at e
  · rename_i ps
    have r' : Rep (gd X) H (Off c hs w.own oa) (.tuple ps) v := r
    rw [Rep] at r'
    obtain ⟨a, xs, rfl, ta, ra⟩ := r'
    exact ⟨a, xs, rfl, ta.sq, by rw [← reps_length ra, gL_length e], c, hs, oa, sl, w, ps, sl', w', S, ra, e, q⟩
  · cases e
def gU (gs : List Tx) : Tx := fun sv sl w => match sv with
  | .d (.list ps) => gL gs ps sl w
  | _ => none
theorem pG_unl {X : Cx} {es : List Expr} {k : Nat} {gs : List Tx} {pos : Pos} (hc : X.calm = true) (h : PGs X es (tGs' (gd X) gs))
    (hn : (assignEach es X.env).length = gs.length) (hst : (assignEach es X.env).findIdx? (·.1) = none) : PG X (.Tuple es k pos) (tG (gd X) (gU gs)) := (pg_unl hc h hn hst).imp fun v σ H Q h => by
  obtain ⟨c, hs, oa, sl, w, sv, sl', w', S, r, e, q⟩ := h
  unfold gU at e
  split at e
  · rename_i ps
    have r' : Rep (gd X) H (Off c hs w.own oa) (.list ps) v := r
    rw [Rep] at r'
    obtain ⟨a, xs, rfl, _, ta, ra⟩ := r'
    exact ⟨a, xs, rfl, .inl (.inl ta), by rw [← reps_length ra, gL_length e], c, hs, oa, sl, w, ps, sl', w', S, ra, e, q⟩
  · cases e
/-- target = e, the value shared -/
def sAsg (f : Ex) (g : Tx) : Sx := fun sl w => match f sl w with
  | some ((sv, _), w1) => (match g sv sl w1 with
    | some (sl', w') => some (.nx, sl', w')
    | none => none)
  | none => none
theorem tS_asg {G : Gd} {f : Ex} {g : Tx} {D : Ends} {σ : L2.St} {H : Hp} (h : tS G (sAsg f g) D σ H) : tAsg (tE G f) (tG G g) D σ H := by
  obtain ⟨c, hs, oa, sl, w, o, sl', w', S, e, q⟩ := h
  unfold sAsg at e
  split at e
  · rename_i sv b w1 e1
    split at e
    · rename_i sl2 w2 e2
      cases e
      exact ⟨c, hs, oa, sl, w, sv, b, w1, S, e1, fun v H1 hs1 S1 x1 sb1 r1 => ⟨c, hs1, oa, sl, w1, sv, sl', w', S1, r1.rep S x1 sb1, e2, fun σ2 H2 hs2 oa2 S2 k2 p2 => q σ2 H2 hs2 oa2 S2 ((x1.keep sb1).trans k2)⟩⟩
    · cases e
  · cases e

/-! ### while -/
def whileGo (t : Bx) (b : Sx) : Nat → Sx
  | 0, _, _ => none
  | n + 1, sl, w => match t sl w with
    | some (false, w1) => some (.nx, sl, w1)
    | some (true, w1) => (match b sl w1 with
      | some (.nx, sl2, w2) => whileGo t b n sl2 w2
      | some (.ct, sl2, w2) => whileGo t b n sl2 w2
      | some (.bk, sl2, w2) => some (.nx, sl2, w2)
      | some (.rt sv k, sl2, w2) => some (.rt sv k, sl2, w2)
      | none => none)
    | none => none
theorem whileGo_mono {t : Bx} {b : Sx} : ∀ {n : Nat} {sl : Slots} {w : W} {r}, whileGo t b n sl w = some r → whileGo t b (n + 1) sl w = some r
  | 0, _, _, _, e => by cases e
  | n + 1, sl, w, r, e => by
    unfold whileGo at e ⊢
    cases e1 : t sl w with
    | none => rw [e1] at e; cases e
    | some q =>
      obtain ⟨k, w1⟩ := q
      rw [e1] at e
      cases k with
      | false => exact e
      | true =>
        simp only at e ⊢
        cases e2 : b sl w1 with
        | none => rw [e2] at e; cases e
        | some q2 =>
          obtain ⟨o, sl2, w2⟩ := q2
          rw [e2] at e
          cases o with
          | nx => exact whileGo_mono e
          | ct => exact whileGo_mono e
          | bk => exact e
          | rt sv k => exact e
theorem whileGo_le {t : Bx} {b : Sx} {n m : Nat} (h : n ≤ m) {sl : Slots} {w : W} {r} (e : whileGo t b n sl w = some r) : whileGo t b m sl w = some r := by
  induction h with
  | refl => exact e
  | step _ ih => exact whileGo_mono ih
open Classical in
noncomputable def sWhile (t : Bx) (b : Sx) : Sx := fun sl w => if h : ∃ n r, whileGo t b n sl w = some r then some (choose (choose_spec h)) else none
theorem sWhile_eq {t : Bx} {b : Sx} {sl : Slots} {w : W} {r} : sWhile t b sl w = some r ↔ ∃ n, whileGo t b n sl w = some r := by
  unfold sWhile
  constructor
  · intro e
    split at e
    · rename_i h
      have := Classical.choose_spec (Classical.choose_spec h)
      refine ⟨Classical.choose h, ?_⟩
      rw [this]
      exact e
    · cases e
  · rintro ⟨n, e⟩
    have h : ∃ n r, whileGo t b n sl w = some r := ⟨n, r, e⟩
    rw [dif_pos h]
    have h2 := Classical.choose_spec (Classical.choose_spec h)
    have a := whileGo_le (Nat.le_max_left n (Classical.choose h)) e
    have b := whileGo_le (Nat.le_max_right n (Classical.choose h)) h2
    rw [a] at b
    exact b.symm
/-- one turn -/
theorem sWhile_step {t : Bx} {b : Sx} {sl : Slots} {w : W} : sWhile t b sl w = (match t sl w with
    | some (false, w1) => some (.nx, sl, w1)
    | some (true, w1) => (match b sl w1 with
      | some (.nx, sl2, w2) => sWhile t b sl2 w2
      | some (.ct, sl2, w2) => sWhile t b sl2 w2
      | some (.bk, sl2, w2) => some (.nx, sl2, w2)
      | some (.rt sv k, sl2, w2) => some (.rt sv k, sl2, w2)
      | none => none)
    | none => none) := by
  have ex : ∀ x : Option (Out × Slots × W), (∀ r, sWhile t b sl w = some r ↔ x = some r) → sWhile t b sl w = x := fun x h => by
    cases x with
    | none =>
      cases e : sWhile t b sl w with
      | none => rfl
      | some r => have := (h r).mp e; cases this
    | some r => exact (h r).mpr rfl
  apply ex
  intro r
  rw [sWhile_eq]
  constructor
  · rintro ⟨n, e⟩
    cases n with
    | zero => cases e
    | succ n =>
      unfold whileGo at e
      revert e
      cases t sl w with
      | none => exact fun e => e
      | some q =>
        obtain ⟨k, w1⟩ := q
        cases k with
        | false => exact fun e => e
        | true =>
          simp only
          cases b sl w1 with
          | none => exact fun e => e
          | some q2 =>
            obtain ⟨o, sl2, w2⟩ := q2
            cases o with
            | nx => exact fun e => sWhile_eq.mpr ⟨n, e⟩
            | ct => exact fun e => sWhile_eq.mpr ⟨n, e⟩
            | bk => exact fun e => e
            | rt sv k => exact fun e => e
  · intro e
    have step : ∀ n, (match t sl w with
      | some (false, w1) => some (.nx, sl, w1)
      | some (true, w1) => (match b sl w1 with
        | some (.nx, sl2, w2) => whileGo t b n sl2 w2
        | some (.ct, sl2, w2) => whileGo t b n sl2 w2
        | some (.bk, sl2, w2) => some (.nx, sl2, w2)
        | some (.rt sv k, sl2, w2) => some (.rt sv k, sl2, w2)
        | none => none)
      | none => none) = some r → ∃ n, whileGo t b n sl w = some r := fun n e => ⟨n + 1, by unfold whileGo; exact e⟩
    revert e step
    cases t sl w with
    | none => intro e; cases e
    | some q =>
      obtain ⟨k, w1⟩ := q
      cases k with
      | false => exact fun e st => st 0 e
      | true =>
        simp only
        cases b sl w1 with
        | none => intro e; cases e
        | some q2 =>
          obtain ⟨o, sl2, w2⟩ := q2
          cases o with
          | nx => exact fun e st => let ⟨n, e⟩ := sWhile_eq.mp e; st n e
          | ct => exact fun e st => let ⟨n, e⟩ := sWhile_eq.mp e; st n e
          | bk => exact fun e st => st 0 e
          | rt sv k => exact fun e st => st 0 e
theorem pS_while {X : Cx} {t : Expr} {body : List Stmt} {h : Bx} {f : Sx} {pos : Pos} (hp : PassesOwn (model X.prog X.w) X.A X.env X.xe) (ht : PT X t (tC' (gd X) h)) (hb : PSs X body (tS (gd X) f)) : PS X (.While t body [] pos) (tS (gd X) (sWhile h f)) := (ps_while hp ht hb).imp fun D σ H q => by
  obtain ⟨c, hs, oa, sl, w, o, sl', w', S, e, q⟩ := q
  obtain ⟨n, e⟩ := sWhile_eq.mp e
  refine ⟨fun m σ1 H1 => ∃ hs1 oa1 sl1 w1, SRel (gd X) c hs1 oa1 sl1 w1 σ1 H1 ∧ whileGo h f m sl1 w1 = some (o, sl', w') ∧ Keep (Off c hs w.own oa) H (Off c hs1 w1.own oa1) H1, ⟨n, hs, oa, sl, w, S, e, .refl⟩, ?_⟩
  rintro m σ1 H1 ⟨hs1, oa1, sl1, w1, S1, e1, k1⟩
  cases m with
  | zero => cases e1
  | succ m =>
    unfold whileGo at e1
    cases e2 : h sl1 w1 with
    | none => rw [e2] at e1; cases e1
    | some r2 =>
      obtain ⟨k, w2⟩ := r2
      rw [e2] at e1
      refine ⟨c, hs1, oa1, sl1, w1, k, w2, S1, e2, fun H2 hs2 S2 x2 sb2 => ?_⟩
      have k2 := k1.trans (x2.keep sb2)
      cases k with
      | false =>
        cases e1
        exact iteF (q σ1 H2 hs2 oa1 S2 k2)
      | true =>
        refine iteT ?_
        simp only at e1
        cases e3 : f sl1 w2 with
        | none => rw [e3] at e1; cases e1
        | some r3 =>
          obtain ⟨o3, sl3, w3⟩ := r3
          rw [e3] at e1
          refine ⟨fun σ4 H4 => ∃ hs4 oa4 sl4 w4, SRel (gd X) c hs4 oa4 sl4 w4 σ4 H4 ∧ whileGo h f m sl4 w4 = some (o, sl', w') ∧ Keep (Off c hs w.own oa) H (Off c hs4 w4.own oa4) H4, fun σ4 H4 z => ⟨m, Nat.lt_succ_self m, z⟩, ?_⟩
          refine ⟨c, hs2, oa1, sl1, w2, o3, sl3, w3, S2, e3, fun σ4 H4 hs4 oa4 S4 k4 => ?_⟩
          cases o3 with
          | nx => exact ⟨hs4, oa4, sl3, w3, S4, e1, k2.trans k4⟩
          | ct => exact ⟨hs4, oa4, sl3, w3, S4, e1, k2.trans k4⟩
          | bk => cases e1; exact q σ4 H4 hs4 oa4 S4 (k2.trans k4)
          | rt sv b => cases e1; exact q σ4 H4 hs4 oa4 S4 (k2.trans k4)

/-! ### for -/
def forGo (g : Tx) (b : Sx) : List P → Sx
  | [], sl, w => some (.nx, sl, w)
  | x :: xs, sl, w => match g (.d x) sl w with
    | some (sl1, w1) => (match b sl1 w1 with
      | some (.nx, sl2, w2) => forGo g b xs sl2 w2
      | some (.ct, sl2, w2) => forGo g b xs sl2 w2
      | some (.bk, sl2, w2) => some (.nx, sl2, w2)
      | some (.rt sv k, sl2, w2) => some (.rt sv k, sl2, w2)
      | none => none)
    | none => none
/-- an iterator that gives the items, whatever is done to names and their own -/
def Wk (G : Gd) (J : It) (ps : List P) (O : Addr → Prop) (H : Hp) : Prop := ∃ R : (Addr → Prop) → Hp → Prop, R O H ∧
  (∀ O H O' H', R O H → Keep O H O' H' → R O' H') ∧
  ∀ O H, R O H → (∀ i, i < ps.length → J.go i H) ∧ J.stop ps.length H ∧ ∀ i x H', i < ps.length → J.yld i H x H' → Same H H' ∧ ∃ p, ps[i]? = some p ∧ Rep G H' O p x
abbrev Ix := Slots → W → Option (List P × W)
def tI' (G : Gd) (f : Ix) : TI := fun σ H Q => ∃ c hs oa sl w ps w', SRel G c hs oa sl w σ H ∧ f sl w = some (ps, w') ∧
  ∀ J H' hs', SRel G c hs' oa sl w' σ H' → Ext hs H hs' H' → Sub w' w → Wk G J ps (Off c hs' w'.own oa) H' → Q J H'
theorem _root_.L2.PI.imp {X : Cx} {tg e : Expr} {t t' : TI} (h : L2.PI X tg e t) (k : ∀ σ H Q, t' σ H Q → t σ H Q) : L2.PI X tg e t' := ⟨fun pins s σ H Q I q => h.run pins s σ H Q I (k σ H Q q)⟩
def sFor (f : Ix) (g : Tx) (b : Sx) : Sx := fun sl w => match f sl w with
  | some (ps, w1) => forGo g b ps sl w1
  | none => none
theorem pS_for {X : Cx} {tg iter : Expr} {body : List Stmt} {f : Ix} {g : Tx} {b : Sx} {pos : Pos} (hp : PassesOwn (model X.prog X.w) X.A X.env X.xe) (hc : X.calm = true) (hi : L2.PI X tg iter (tI' (gd X) f)) (hg : PG X tg (tG (gd X) g)) (hb : PSs X body (tS (gd X) b))
    (hs : ∀ x, foldedSetIterable iter X.env x = pure x) : PS X (.For tg iter body [] pos) (tS (gd X) (sFor f g b)) := (ps_for hp hc hi hg hb hs).imp fun D σ H q => by
  obtain ⟨c, hs, oa, sl, w, o, sl', w', S, e, q⟩ := q
  unfold sFor at e
  split at e
  · rename_i ps w1 e1
    refine ⟨c, hs, oa, sl, w, ps, w1, S, e1, fun J H1 hs1 S1 x1 sb1 wk => ?_⟩
    obtain ⟨R, r1, rk, rw⟩ := wk
    have k1 := x1.keep (c := c) (oa := oa) sb1
    refine ⟨fun i m σ2 H2 => m = ps.length - i ∧ i ≤ ps.length ∧ ∃ hs2 oa2 sl2 w2, SRel (gd X) c hs2 oa2 sl2 w2 σ2 H2 ∧ forGo g b (ps.drop i) sl2 w2 = some (o, sl', w') ∧ Keep (Off c hs w.own oa) H (Off c hs2 w2.own oa2) H2 ∧ R (Off c hs2 w2.own oa2) H2,
      ⟨ps.length, rfl, Nat.zero_le _, hs1, oa, sl, w1, S1, e, k1, r1⟩, ?_⟩
    rintro i m σ2 H2 ⟨rfl, hi, hs2, oa2, sl2, w2, S2, e2, k2, r2⟩
    obtain ⟨g1, g2, g3⟩ := rw _ _ r2
    by_cases hlt : i < ps.length
    · refine .inr ⟨g1 i hlt, fun σ5 H5 => i + 1 ≤ ps.length ∧ ∃ hs5 oa5 sl5 w5, SRel (gd X) c hs5 oa5 sl5 w5 σ5 H5 ∧ forGo g b (ps.drop (i + 1)) sl5 w5 = some (o, sl', w') ∧ Keep (Off c hs w.own oa) H (Off c hs5 w5.own oa5) H5 ∧ R (Off c hs5 w5.own oa5) H5, fun σ5 H5 z => ⟨ps.length - (i + 1), by omega, rfl, z⟩, fun x H3 y => ?_⟩
      obtain ⟨sm, p, ep, rp⟩ := g3 i x H3 hlt y
      have ed : ps.drop i = p :: ps.drop (i + 1) := by
        obtain ⟨_, e4⟩ := List.getElem?_eq_some_iff.mp ep
        rw [← e4]; exact List.drop_eq_getElem_cons hlt
      rw [ed] at e2
      unfold forGo at e2
      cases e4 : g (.d p) sl2 w2 with
      | none => rw [e4] at e2; cases e2
      | some q4 =>
        obtain ⟨sl4, w4⟩ := q4
        rw [e4] at e2
        simp only at e2
        refine ⟨c, hs2, oa2, sl2, w2, .d p, sl4, w4, S2.grow sm, rp, e4, fun σ4 H4 hs4 oa4 S4 k4 p4 => ?_⟩
        have k5 := (Keep.grow sm).trans k4
        cases e5 : b sl4 w4 with
        | none => rw [e5] at e2; cases e2
        | some q5 =>
          obtain ⟨o5, sl5, w5⟩ := q5
          rw [e5] at e2
          refine ⟨c, hs4, oa4, sl4, w4, o5, sl5, w5, S4, e5, fun σ6 H6 hs6 oa6 S6 k6 => ?_⟩
          have k7 := k5.trans k6
          cases o5 with
          | nx => exact ⟨hlt, hs6, oa6, sl5, w5, S6, e2, k2.trans k7, rk _ _ _ _ r2 k7⟩
          | ct => exact ⟨hlt, hs6, oa6, sl5, w5, S6, e2, k2.trans k7, rk _ _ _ _ r2 k7⟩
          | bk => cases e2; exact q σ6 H6 hs6 oa6 S6 (k2.trans k7)
          | rt sv k => cases e2; exact q σ6 H6 hs6 oa6 S6 (k2.trans k7)
    · have ei : i = ps.length := by omega
      subst ei
      rw [List.drop_length] at e2
      cases e2
      exact .inl ⟨g2, q σ2 H2 hs2 oa2 S2 k2⟩
  · cases e
end PI
/-! PI9: enumerate and zip of lists and tuples; what is walked. -/
namespace PI
open PySem PySem.Spec L2

/-! ### a list or a tuple, walked -/
def SqK (b : Bool) (K : PySem.W.Frag) (H : Hp) (a : Addr) (xs : List V) : Prop := match b with
  | true => SqL K H a xs
  | false => SqT K H a xs
def dObj (b : Bool) (a : Addr) : Obj := match b with
  | true => { cls := .type "list_iterator", data := .fields #[.ref a, .int 0 0] }
  | false => { cls := .type "tuple_iterator", data := .fields #[.ref a, .int 0 0] }
def SIt (b : Bool) (h : Heap) (it a : Addr) (i : Nat) : Prop := match b with
  | true => h.IsListIter it a i
  | false => h.IsTupleIter it a i
def SAt (b : Bool) (h : Heap) (a : Addr) (its : Array Value) : Prop := match b with
  | true => h.IsList a its
  | false => h.IsTuple a its
theorem draws (b : Bool) {prog : Program} {w : World} {A : Around} (hh : A.handled = none) (it a : Addr) (hne : a ≠ it) (its : Array Value) :
    Draws prog w A it [it, a] its.size (fun i v => its[i]? = some v) (fun i h => SIt b h it a i ∧ SAt b h a its) := by
  cases b with
  | true => exact Draws.list hh it a hne its
  | false => exact Draws.tuple hh it a hne its
theorem begins (b : Bool) (a : Addr) (its : Array Value) : Begins (.ref a) (dObj b a) fun h => SAt b h a its := by
  cases b with
  | true => exact begins_list a its
  | false => exact begins_tuple a its
theorem SIt.keep {b : Bool} {h h' : Heap} {it a : Addr} {i : Nat} (s : SIt b h it a i) (k : ∀ o, h.get? it = some o → h'.get? it = some o) : SIt b h' it a i := by
  cases b with
  | true => exact Heap.IsListIter.at (show h.IsListIter it a i from s) fun o e => k o e
  | false => exact Heap.IsTupleIter.at (show h.IsTupleIter it a i from s) fun o e => k o e
theorem SIt.obj {b : Bool} {h : Heap} {it a : Addr} {i : Nat} (s : SIt b h it a i) : ∃ o, h.get? it = some o ∧ ∀ v, o.data ≠ .cell v := by
  cases b with
  | true => obtain ⟨o, e, _, d⟩ := (show h.IsListIter it a i from s); exact ⟨o, e, fun v q => by rw [d] at q; cases q⟩
  | false => obtain ⟨o, e, _, d⟩ := (show h.IsTupleIter it a i from s); exact ⟨o, e, fun v q => by rw [d] at q; cases q⟩
theorem dObj_it (b : Bool) {h : Heap} {it a : Addr} (e : h.get? it = some (dObj b a)) : SIt b h it a 0 := by
  cases b with
  | true => exact ⟨_, e, rfl, rfl⟩
  | false => exact ⟨_, e, rfl, rfl⟩
section
variable {X : Cx} {pins : List (Addr × Obj)} {σ : L2.St} {H : Hp} {s : Shared}
theorem inv_seqK (I : Inv X pins σ H s) {b : Bool} {a : Addr} {xs : List V} (h : SqK b X.K H a xs) : ∃ its : List Value, Vals xs its ∧ SAt b s.heap a its.toArray ∧ xs.length ≤ sizeLine ∧ a < s.heap.objs.size := by
  cases b with
  | true =>
    obtain ⟨its, rv, p, z⟩ := I.list h
    exact ⟨its, rv, p.isList, z, p.lt⟩
  | false =>
    obtain ⟨its, rv, p, z⟩ := I.tuple h
    obtain ⟨o, ho, _⟩ := id p
    exact ⟨its, rv, p, z, Heap.lt_size ho⟩
theorem inv_seqK_inj (I : Inv X pins σ H s) {b : Bool} {a : Addr} {xs ys : List V} (h : SqK b X.K H a xs) (h' : SqK b X.K H a ys) : xs = ys := by
  cases b with
  | true => exact I.list_inj h h'
  | false => exact I.tuple_inj h h'
end

/-! ### enumerate -/
set_option maxHeartbeats 1000000 in
theorem meets_enum1 {v : Value} {o : Obj} {H : Heap → Prop} (B : Begins v o H) :
    Meets (Builtin.«enumerate.__new__» ⟨[.type "enumerate", v], []⟩) (fun _ R s => H s.heap ∧
      R (.ok (.ret (.ref (s.heap.push o).objs.size))) { s with heap := (s.heap.push o).push { cls := .type "enumerate", data := .fields #[.none, .bool false, .ref s.heap.objs.size, rawInt 0, .none, .none] } }) :=
  .of_wp fun prog w A R s h => by
    obtain ⟨hp, g, d, tk, os⟩ := s; obtain ⟨h1, h⟩ := h
    have hsub := sub_enumerate
    have q1 : ∀ {A' : Around} {E : Value → Shared → Prop} {Q : Value → Shared → Prop}, Q (.ref hp.objs.size) ⟨hp.push o, g, d, tk, os⟩ → wpAny (model prog w) A' (pyIter v) Q E ⟨hp, g, d, tk, os⟩ :=
      fun q => B.iter prog w _ _ ⟨hp, g, d, tk, os⟩ _ h1 q
    wp_walk using q1
    refine wpAny_stack_any fun st => wpAny_pure ?_
    split
    · rename_i c _ _ _ _ _
      cases (c == Value.type "enumerate")
      · wp_walk using q1
        exact ⟨_, rfl, h⟩
      · wp_walk using q1
        exact ⟨_, rfl, h⟩
    · wp_walk using q1
      exact ⟨_, rfl, h⟩
theorem enum_begins1 {prog : Program} {w : World} {A : Around} {E : Value → Shared → Prop} {s : Shared} {v : Value} {o : Obj} {H : Heap → Prop} {Q : Value → Shared → Prop} (B : Begins v o H) (h1 : H s.heap)
    (h : ∀ h', IsEnum h' (s.heap.objs.size + 1) s.heap.objs.size 0 .none → h'.get? s.heap.objs.size = some o → h'.objs.size = s.heap.objs.size + 2 →
      (∀ b o, s.heap.get? b = some o → h'.get? b = some o) → Q (.ref (s.heap.objs.size + 1)) { s with heap := h' }) :
    wpAny (model prog w) A (call (.type "enumerate") [v]) Q E s := by
  refine callType_new F.called_enumerate (by decide) (F.typeCall_enumerate_1 _) (F.newCall_enumerate_1 _) (fun obj => F.args_object_init_2 obj _) F.entry_enumerate_new
    (meets_enum1 B) ⟨h1, ?_⟩
  have hz : (s.heap.push o).objs.size = s.heap.objs.size + 1 := Heap.size_push ..
  show _ ∧ _
  rw [hz]
  have he : IsEnum ((s.heap.push o).push { cls := .type "enumerate", data := .fields #[.none, .bool false, .ref s.heap.objs.size, rawInt 0, .none, .none] }) (s.heap.objs.size + 1) s.heap.objs.size 0 .none := by
    have := Heap.get?_push_size (s.heap.push o) (o := { cls := .type "enumerate", data := .fields #[.none, .bool false, .ref s.heap.objs.size, rawInt 0, .none, .none] }) rfl
    rw [hz] at this; exact this
  refine ⟨⟨_, he, rfl⟩, h _ he (Heap.get?_push_of_some _ (Heap.get?_push_size _ B.free)) (by rw [Heap.size_push, hz]) fun b o x => Heap.get?_push_of_some _ (Heap.get?_push_of_some _ x)⟩
def ItE (b : Bool) (K : PySem.W.Frag) (a : Addr) : It :=
  ⟨fun i H => ∃ (xs : List V) (x : V), SqK b K H a xs ∧ xs[i]? = some x, fun i H v H' => ∃ T x, v = .ref T ∧ H T = none ∧ H' = upd H T (.tup [.int (i : Nat), x]) ∧ ∀ xs, SqK b K H a xs → xs[i]? = some x, fun i H => ∃ xs : List V, SqK b K H a xs ∧ xs.length = i⟩
theorem new_pair {X : Cx} {pins : List (Addr × Obj)} {σ : L2.St} {H : Hp} {s : Shared} (I : Inv X pins σ H s) {own : List Addr} {h' : Heap} {tk : Nat} {T : Addr} {u1 u2 : Value} {x1 x2 : V} (hf : ∀ b ∈ own, FpOk X pins H b) (hk : ∀ b o, b ∉ own → s.heap.get? b = some o → h'.get? b = some o)
    (hT : s.heap.objs.size ≤ T) (h1 : RelV x1 u1) (h2 : RelV x2 u2) (ht : h'.IsTuple T #[u1, u2]) : Inv X pins σ (upd H T (.tup [x1, x2])) { s with heap := h', toks := tk } :=
  I.turnedNew (t' := tk) (ch := own) hk hf hT ⟨by show 2 ≤ sizeLine; decide, [u1, u2], .cons h1 (.cons h2 .nil), ht⟩
theorem turn_enumK (b : Bool) {P : Program} {w : World} {K : PySem.W.Frag} {elts : List Expr} {kk : Nat} {tpos : Pos} (a e it : Addr) (hei : e ≠ it) (hai : a ≠ it) (hae : a ≠ e) :
    Turn P w K (.Tuple elts kk tpos) (ItE b K a) [e, it] e (fun i h => (∃ old, IsEnum h e it ((0 : Int) + (i : Nat)) old) ∧ SIt b h it a i) where
  mem := by simp
  obj := fun i h st c hb => by
    obtain ⟨⟨old, he⟩, hit⟩ := st
    have e' : c = e ∨ c = it := by simpa using hb
    rcases e' with z | z
    · rw [z]; exact ⟨_, he, fun v q => nomatch q⟩
    · rw [z]; exact hit.obj
  keep := fun i h h' st k => let ⟨⟨old, he⟩, hi⟩ := st; ⟨⟨old, k e (by simp) _ he⟩, hi.keep fun o q => k it (by simp) o q⟩
  item := by
    intro X hP hw hK hc i pins s σ H E I hf st hg
    subst hP hw hK
    obtain ⟨xs, x, hq, hx⟩ := hg
    obtain ⟨its, rv, p, hz, _⟩ := inv_seqK I hq
    obtain ⟨u, hu, ru⟩ := rv.get hx
    have W := GoesN.enumFrom (elts := elts) (x1 := kk) (pos := tpos) 0 (draws b (prog := X.prog) (w := X.w) (A := X.A.in1) (I.ok.hd hc) it a hai its.toArray) e hei (by simp [hei, Ne.symm hae]) (by simp)
    have hl : i < its.toArray.size := by
      have := (List.getElem?_eq_some_iff.mp hu).1
      simpa using this
    refine W.goes i s (fun u s2 => ∃ x H', Inv X pins σ H' s2 ∧ RelV x u ∧ (ItE b X.K a).yld i H x H' ∧ ((∃ old, IsEnum s2.heap e it ((0 : Int) + ((i + 1 : Nat))) old) ∧ SIt b s2.heap it a (i + 1)) ∧ ∀ c ∈ [e, it], H' c = none) E hl ⟨st.1, st.2, p⟩ fun v h' tk hY st' hk _ => ?_
    obtain ⟨T, t, y, rfl, hT, hy, ht⟩ := hY
    have ey : y = u := by
      have hy' : its[i]? = some y := by simpa using hy
      rw [hu] at hy'; exact (Option.some.inj hy').symm
    subst ey
    have e0 : (0 : Int) + (i : Nat) = (i : Nat) := Int.zero_add _
    rw [e0] at ht
    have hTn : H T = none := I.hok.fresh hT
    refine ⟨.ref T, _, new_pair I (own := [e, it]) (x1 := .int (i : Nat)) hf hk hT (show RelV (.int (i : Nat)) (.int (i : Nat) t) from ⟨t, rfl⟩) ru ht, rfl, ⟨T, x, rfl, hTn, rfl, fun ys hy => by rw [inv_seqK_inj I hy hq]; exact hx⟩, ⟨st'.1, st'.2.1⟩, fun c hc => ?_⟩
    have hcl : c < s.heap.objs.size := by
      have e' : c = e ∨ c = it := by simpa using hc
      rcases e' with z | z
      · obtain ⟨⟨old, he⟩, _⟩ := st; rw [z]; exact Heap.lt_size he
      · obtain ⟨o, q, _⟩ := st.2.obj; rw [z]; exact Heap.lt_size q
    rw [upd_ne (Nat.ne_of_lt (Nat.lt_of_lt_of_le hcl hT))]
    exact (hf c hc).1
  done := by
    intro X hP hw hK hc i pins s σ H E I hf st hg
    subst hP hw hK
    obtain ⟨xs, hq, hx⟩ := hg
    obtain ⟨its, rv, p, hz, _⟩ := inv_seqK I hq
    have W := GoesN.enumFrom (elts := elts) (x1 := kk) (pos := tpos) 0 (draws b (prog := X.prog) (w := X.w) (A := X.A.in1) (I.ok.hd hc) it a hai its.toArray) e hei (by simp [hei, Ne.symm hae]) (by simp)
    have hl : i = its.toArray.size := by have := rv.length; simp; omega
    subst hl
    exact W.stops s (fun s1 => Inv X pins σ H s1) E ⟨st.1, st.2, p⟩ fun h' tk hk _ => I.turnedL (t' := tk) (ch := [e, it]) hk hf
  self := fun A i s Q E st h => let ⟨⟨_, he⟩, _⟩ := st; wpAny_pyIter_enum he h
def iEnumK (K : PySem.W.Frag) (ta : TA) : TI := fun σ H R => ta σ H fun vs H1 => ∃ b a xs, vs = [.ref a] ∧ SqK b K H1 a xs ∧ R (ItE b K a) H1
theorem pi_enumK {X : Cx} {e : Expr} {ta : TA} {p pos tpos : Pos} {elts : List Expr} {kk : Nat} (hg : Gl X "enumerate") (hm : X.mg "enumerate" = none) (ha : PA X [e] ta) (hs : starEach [e] X.env = [(false, eval e X.env)]) :
    L2.PI X (.Tuple elts kk tpos) (.Call (.Name "enumerate" p) [e] [] pos) (iEnumK X.K ta) := by
  refine ⟨fun pins s σ H R I h => ?_⟩
  refine PyProof.Rows.Call_ (ld_blt I hg hm PyProof.Rows.boot_enumerate (PyProof.Rows.callWith_type1 (thn (ha.run pos pins s σ H _ I h) fun us s1 ⟨vs, H1, I1, r1, q1⟩ => ?_) hs rfl))
  obtain ⟨b, a, xs, ex, hq, q⟩ := q1
  subst ex
  cases r1 with
  | cons r rr =>
    cases rr
    cases r
    obtain ⟨its, rv, p', hz, hal⟩ := inv_seqK I1 hq
    refine enum_begins1 (begins b a its.toArray) p' fun h' he hit hsz hk => wpAny_pyIter_enum he ?_
    have I2 : Inv X pins σ H1 { s1 with heap := h' } := I1.kept (t' := s1.toks) hk
    refine ⟨s1.heap.objs.size + 1, [s1.heap.objs.size + 1, s1.heap.objs.size], _, _, H1, rfl, I2, turn_enumK b a (s1.heap.objs.size + 1) s1.heap.objs.size (Nat.succ_ne_self _) (Nat.ne_of_lt hal) (Nat.ne_of_lt (Nat.lt_succ_of_lt hal)), ⟨⟨.none, he⟩, dObj_it b hit⟩, fun c hc => ?_, q⟩
    have e' : c = s1.heap.objs.size + 1 ∨ c = s1.heap.objs.size := by simpa using hc
    have hle : s1.heap.objs.size ≤ c := by
      rcases e' with z | z
      · rw [z]; exact Nat.le_add_right _ _
      · rw [z]; exact Nat.le_refl _
    exact I1.fpOk hle (I1.hok.fresh hle)

/-! ### zip -/
def ItZ (b1 b2 : Bool) (K : PySem.W.Frag) (a1 a2 : Addr) : It :=
  ⟨fun i H => ∃ (xs ys : List V) (x y : V), SqK b1 K H a1 xs ∧ SqK b2 K H a2 ys ∧ xs[i]? = some x ∧ ys[i]? = some y,
    fun i H v H' => ∃ T x y, v = .ref T ∧ H T = none ∧ H' = upd H T (.tup [x, y]) ∧ (∀ xs, SqK b1 K H a1 xs → xs[i]? = some x) ∧ ∀ ys, SqK b2 K H a2 ys → ys[i]? = some y,
    fun i H => ∃ xs ys : List V, SqK b1 K H a1 xs ∧ SqK b2 K H a2 ys ∧ min xs.length ys.length = i⟩
theorem turn_zipK (b1 b2 : Bool) {P : Program} {w : World} {K : PySem.W.Frag} {elts : List Expr} {kk : Nat} {tpos : Pos} (N a1 a2 : Addr) (h1 : a1 < N) (h2 : a2 < N) :
    Turn P w K (.Tuple elts kk tpos) (ItZ b1 b2 K a1 a2) [N + 4, N + 2, N + 3, N, N + 1] (N + 4) (fun i h => IsZip h (N + 4) (N + 2) (N + 3) .none ∧ IsTupOf2 h (N + 2) (.ref N) (.ref (N + 1)) ∧ (∃ x y, IsTupOf2 h (N + 3) x y) ∧ SIt b1 h N a1 i ∧ SIt b2 h (N + 1) a2 i) where
  mem := by simp
  obj := fun i h st c hc => by
    obtain ⟨hz, hTI, ⟨x, y, hTO⟩, k1, k2⟩ := st
    have e' : c = N + 4 ∨ c = N + 2 ∨ c = N + 3 ∨ c = N ∨ c = N + 1 := by simpa using hc
    rcases e' with q | q | q | q | q
    · rw [q]; exact ⟨_, hz, fun v q => nomatch q⟩
    · rw [q]; exact ⟨_, hTI, fun v q => nomatch q⟩
    · rw [q]; exact ⟨_, hTO, fun v q => nomatch q⟩
    · rw [q]; exact k1.obj
    · rw [q]; exact k2.obj
  keep := fun i h h' st k => by
    obtain ⟨hz, hTI, ⟨x, y, hTO⟩, k1, k2⟩ := st
    exact ⟨k (N + 4) (by simp) _ hz, k (N + 2) (by simp) _ hTI, ⟨x, y, k (N + 3) (by simp) _ hTO⟩, k1.keep fun o q => k N (by simp) o q, k2.keep fun o q => k (N + 1) (by simp) o q⟩
  item := by
    intro X hP hw hK hc i pins s σ H E I hf st hg
    subst hP hw hK
    obtain ⟨xs, ys, x, y, hq1, hq2, hx, hy⟩ := hg
    obtain ⟨its, rv, p, _, _⟩ := inv_seqK I hq1
    obtain ⟨its2, rv2, p2, _, _⟩ := inv_seqK I hq2
    obtain ⟨u, hu, ru⟩ := rv.get hx
    obtain ⟨u2, hu2, ru2⟩ := rv2.get hy
    have D1 := draws b1 (prog := X.prog) (w := X.w) (A := X.A.in1) (I.ok.hd hc) N a1 (Nat.ne_of_lt h1) its.toArray
    have D2 := draws b2 (prog := X.prog) (w := X.w) (A := X.A.in1) (I.ok.hd hc) (N + 1) a2 (Nat.ne_of_lt (Nat.lt_succ_of_lt h2)) its2.toArray
    have W := GoesN.zip2 (elts := elts) (x1 := kk) (pos := tpos) (zip_sep2 (N := N) (fp1 := [a1]) (fp2 := [a2]) (by simpa using h1) (by simpa using h2)) D1 D2
    have l1 := (List.getElem?_eq_some_iff.mp hu).1
    have l2 := (List.getElem?_eq_some_iff.mp hu2).1
    have hl : i < min its.toArray.size its2.toArray.size := by simp; omega
    refine W.goes i s (fun u s2 => ∃ x H', Inv X pins σ H' s2 ∧ RelV x u ∧ (ItZ b1 b2 X.K a1 a2).yld i H x H' ∧ (IsZip s2.heap (N + 4) (N + 2) (N + 3) .none ∧ IsTupOf2 s2.heap (N + 2) (.ref N) (.ref (N + 1)) ∧ (∃ x y, IsTupOf2 s2.heap (N + 3) x y) ∧ SIt b1 s2.heap N a1 (i + 1) ∧ SIt b2 s2.heap (N + 1) a2 (i + 1)) ∧ ∀ c ∈ [N + 4, N + 2, N + 3, N, N + 1], H' c = none) E hl ⟨st.1, st.2.1, st.2.2.1, ⟨st.2.2.2.1, p⟩, st.2.2.2.2, p2⟩ fun v h' tk hY st' hk _ => ?_
    obtain ⟨T, y1, y2, rfl, hT, hy1, hy2, ht⟩ := hY
    have e1 : y1 = u := by
      have hy' : its[i]? = some y1 := by simpa using hy1
      rw [hu] at hy'; exact (Option.some.inj hy').symm
    have e2 : y2 = u2 := by
      have hy' : its2[i]? = some y2 := by simpa using hy2
      rw [hu2] at hy'; exact (Option.some.inj hy').symm
    subst e1 e2
    have hTn : H T = none := I.hok.fresh hT
    have hk' : ∀ b o, b ∉ [N + 4, N + 2, N + 3, N, N + 1] → s.heap.get? b = some o → h'.get? b = some o := fun b o hb e => hk b o (fun z => hb (by simp at z ⊢; rcases z with z | z | z | z <;> simp [z])) e
    refine ⟨.ref T, _, new_pair I hf hk' hT ru ru2 ht, rfl, ⟨T, x, y, rfl, hTn, rfl, fun l hl => by rw [inv_seqK_inj I hl hq1]; exact hx, fun l hl => by rw [inv_seqK_inj I hl hq2]; exact hy⟩, ⟨st'.1, st'.2.1, st'.2.2.1, st'.2.2.2.1.1, st'.2.2.2.2.1⟩, fun c hc => ?_⟩
    have hcl : c < s.heap.objs.size := by
      have e' : c = N + 4 ∨ c = N + 2 ∨ c = N + 3 ∨ c = N ∨ c = N + 1 := by simpa using hc
      obtain ⟨hz, hTI, ⟨x, y, hTO⟩, k1, k2⟩ := st
      rcases e' with q | q | q | q | q
      · rw [q]; exact Heap.lt_size hz
      · rw [q]; exact Heap.lt_size hTI
      · rw [q]; exact Heap.lt_size hTO
      · obtain ⟨_, e1, _⟩ := k1.obj; rw [q]; exact Heap.lt_size e1
      · obtain ⟨_, e1, _⟩ := k2.obj; rw [q]; exact Heap.lt_size e1
    rw [upd_ne (Nat.ne_of_lt (Nat.lt_of_lt_of_le hcl hT))]
    exact (hf c hc).1
  done := by
    intro X hP hw hK hc i pins s σ H E I hf st hg
    subst hP hw hK
    obtain ⟨xs, ys, hq1, hq2, hend⟩ := hg
    obtain ⟨its, rv, p, _, _⟩ := inv_seqK I hq1
    obtain ⟨its2, rv2, p2, _, _⟩ := inv_seqK I hq2
    have D1 := draws b1 (prog := X.prog) (w := X.w) (A := X.A.in1) (I.ok.hd hc) N a1 (Nat.ne_of_lt h1) its.toArray
    have D2 := draws b2 (prog := X.prog) (w := X.w) (A := X.A.in1) (I.ok.hd hc) (N + 1) a2 (Nat.ne_of_lt (Nat.lt_succ_of_lt h2)) its2.toArray
    have W := GoesN.zip2 (elts := elts) (x1 := kk) (pos := tpos) (zip_sep2 (N := N) (fp1 := [a1]) (fp2 := [a2]) (by simpa using h1) (by simpa using h2)) D1 D2
    have hl : i = min its.toArray.size its2.toArray.size := by have := rv.length; have := rv2.length; simp; omega
    subst hl
    refine W.stops s (fun s1 => Inv X pins σ H s1) E ⟨st.1, st.2.1, st.2.2.1, ⟨st.2.2.2.1, p⟩, st.2.2.2.2, p2⟩ fun h' tk hk _ => I.turnedL (t' := tk) (ch := [N + 4, N + 2, N + 3, N, N + 1]) (fun b o hb e => hk b o (fun z => hb (by simp at z ⊢; rcases z with z | z | z | z <;> simp [z])) e) hf
  self := fun A i s Q E st h => wpAny_pyIter_zip st.1 h
def iZipK (K : PySem.W.Frag) (ta : TA) : TI := fun σ H R => ta σ H fun vs H1 => ∃ b1 b2 a1 a2 xs ys, vs = [.ref a1, .ref a2] ∧ SqK b1 K H1 a1 xs ∧ SqK b2 K H1 a2 ys ∧ R (ItZ b1 b2 K a1 a2) H1
theorem pi_zipK {X : Cx} {e e2 : Expr} {ta : TA} {p pos tpos : Pos} {elts : List Expr} {kk : Nat} (hg : Gl X "zip") (hm : X.mg "zip" = none) (ha : PA X [e, e2] ta)
    (hs : starEach [e, e2] X.env = (false, eval e X.env) :: starEach [e2] X.env) (hpl : (backTo pos (starEach [e2] X.env)).any (·.1) = false) :
    L2.PI X (.Tuple elts kk tpos) (.Call (.Name "zip" p) [e, e2] [] pos) (iZipK X.K ta) := by
  refine ⟨fun pins s σ H R I h => ?_⟩
  refine PyProof.Rows.Call_ (ld_blt I hg hm PyProof.Rows.boot_zip (PyProof.Rows.callWith_type1 (thn (ha.run pos pins s σ H _ I h) fun us s1 ⟨vs, H1, I1, r1, q1⟩ => ?_) hs hpl))
  obtain ⟨b1, b2, a1, a2, xs, ys, ex, hq1, hq2, q⟩ := q1
  subst ex
  cases r1 with
  | cons r rr =>
    cases rr with
    | cons r' rr =>
      cases rr
      cases r
      cases r'
      obtain ⟨its, rv, p1, _, la⟩ := inv_seqK I1 hq1
      obtain ⟨its2, rv2, p2, _, lb⟩ := inv_seqK I1 hq2
      refine zip_begins2 (begins b1 a1 its.toArray) (begins b2 a2 its2.toArray) p1 p2 fun h' hz hTI hTO k1 k2 hsz hk => wpAny_pyIter_zip hz ?_
      have I2 : Inv X pins σ H1 { s1 with heap := h' } := I1.kept (t' := s1.toks) hk
      refine ⟨s1.heap.objs.size + 4, [s1.heap.objs.size + 4, s1.heap.objs.size + 2, s1.heap.objs.size + 3, s1.heap.objs.size, s1.heap.objs.size + 1], _, _, H1, rfl, I2, turn_zipK b1 b2 s1.heap.objs.size a1 a2 la lb, ⟨hz, hTI, ⟨_, _, hTO⟩, dObj_it b1 k1, dObj_it b2 k2⟩, fun c hcm => ?_, q⟩
      have e' : c = s1.heap.objs.size + 4 ∨ c = s1.heap.objs.size + 2 ∨ c = s1.heap.objs.size + 3 ∨ c = s1.heap.objs.size ∨ c = s1.heap.objs.size + 1 := by simpa using hcm
      have hle : s1.heap.objs.size ≤ c := by
        rcases e' with z | z | z | z | z
        · rw [z]; exact Nat.le_add_right _ _
        · rw [z]; exact Nat.le_add_right _ _
        · rw [z]; exact Nat.le_add_right _ _
        · rw [z]; exact Nat.le_refl _
        · rw [z]; exact Nat.le_add_right _ _
      exact I1.fpOk hle (I1.hok.fresh hle)
end PI
/-! PI10: what a loop walks. -/
namespace PI
open PySem PySem.Spec L2

theorem pi_or {X : Cx} {tg e : Expr} {t u : TI} (a : L2.PI X tg e t) (b : L2.PI X tg e u) : L2.PI X tg e (fun σ H R => t σ H R ∨ u σ H R) :=
  ⟨fun pins s σ H R I h => h.elim (a.run pins s σ H R I) (b.run pins s σ H R I)⟩
section
variable {G : Gd} {O : Addr → Prop} {H : Hp}
theorem rep_list {ds : List P} {v : V} (h : Rep G H O (.list ds) v) : ∃ a xs, v = .ref a ∧ H a = some (.lst xs) ∧ Reps G H O ds xs := by
  rw [Rep] at h; obtain ⟨a, xs, e, _, r, q⟩ := h; exact ⟨a, xs, e, r, q⟩
theorem rep_tup {ds : List P} {v : V} (h : Rep G H O (.tuple ds) v) : ∃ a xs, v = .ref a ∧ TupAt G.K H a xs ∧ Reps G H O ds xs := by
  rw [Rep] at h; exact h
/-- the walk of a list or tuple that stays -/
theorem wk_seq {J : It} {ps : List P} (R : (Addr → Prop) → Hp → Prop) (xs : (Addr → Prop) → Hp → List V → Prop) (h0 : R O H) (hk : ∀ O H O' H', R O H → Keep O H O' H' → R O' H') (hr : ∀ O H, R O H → ∃ ys, xs O H ys ∧ Reps G H O ps ys ∧
    (∀ i x, ys[i]? = some x → J.go i H) ∧ J.stop ys.length H ∧ ∀ i x H', J.yld i H x H' → H' = H ∧ ys[i]? = some x) : Wk G J ps O H := by
  refine ⟨R, h0, hk, fun O H r => ?_⟩
  obtain ⟨ys, _, rs, g1, g2, g3⟩ := hr O H r
  have hl := reps_length rs
  refine ⟨fun i hi => g1 i ys[i] (List.getElem?_eq_getElem (by omega)), by rw [hl]; exact g2, fun i x H' hi y => ?_⟩
  obtain ⟨rfl, e⟩ := g3 i x H' y
  obtain ⟨p, e2, r2⟩ := reps_get' rs e
  exact ⟨Same.refl _, p, e2, r2⟩
theorem wk_list {ps : List P} {a : Addr} (h : Rep G H O (.list ps) (.ref a)) : Wk G (Itl G.K a) ps O H :=
  wk_seq (fun O H => Rep G H O (.list ps) (.ref a)) (fun _ _ _ => True) h (fun O H O' H' r k => Rep.keep k _ _ r) fun O H r => by
    obtain ⟨b, xs, e, q, rs⟩ := rep_list r
    cases e
    exact ⟨xs, trivial, rs, fun i x e => ⟨xs, x, .inl (.inl q), e⟩, ⟨xs, .inl (.inl q), Nat.le_refl _⟩, fun i x H' y => ⟨y.1, y.2 xs (.inl (.inl q))⟩⟩
theorem wk_tup {ps : List P} {a : Addr} (h : Rep G H O (.tuple ps) (.ref a)) : Wk G (Itt G.K a) ps O H :=
  wk_seq (fun O H => Rep G H O (.tuple ps) (.ref a)) (fun _ _ _ => True) h (fun O H O' H' r k => Rep.keep k _ _ r) fun O H r => by
    obtain ⟨b, xs, e, q, rs⟩ := rep_tup r
    cases e
    exact ⟨xs, trivial, rs, fun i x e => ⟨xs, x, q.sq, e⟩, ⟨xs, q.sq, Nat.le_refl _⟩, fun i x H' y => ⟨y.1, y.2 xs q.sq⟩⟩
theorem wk_z {ns : List Int} {a : Addr} (h : SqZ G.K H a (ns.map V.int)) : Wk G (Itl G.K a) (ns.map PyData.int) O H :=
  wk_seq (fun O H => SqZ G.K H a (ns.map V.int)) (fun _ _ _ => True) h (fun O H O' H' r k => r.elim (fun ⟨o, e⟩ => .inl ⟨o, k.frz _ _ _ e⟩) .inr) fun O H r => by
    exact ⟨_, trivial, reps_ints ns, fun i x e => ⟨_, x, r.sq, e⟩, ⟨_, r.sq, Nat.le_refl _⟩, fun i x H' y => ⟨y.1, y.2 _ r.sq⟩⟩
end
/-- for x in a list, a tuple, the script -/
def iSeqP : SV → Option (List P)
  | .d (.list ps) => some ps
  | .d (.tuple ps) => some ps
  | .z ns => some (ns.map PyData.int)
  | _ => none
def iSeq (f : Ex) : Ix := fun sl w => match f sl w with
  | some ((sv, _), w1) => (match iSeqP sv with
    | some ps => some (ps, w1)
    | none => none)
  | none => none
theorem pI_seq {X : Cx} {tg e : Expr} {f : Ex} (h : PE X e (tE (gd X) f)) : L2.PI X tg e (tI' (gd X) (iSeq f)) := (pi_or (pi_list h) (pi_tup h)).imp fun σ H Q q => by
  obtain ⟨c, hs, oa, sl, w, ps, w', S, e, q⟩ := q
  unfold iSeq at e
  split at e
  · rename_i sv b w1 e1
    split at e
    · rename_i ps2 e2
      cases e
      unfold iSeqP at e2
      split at e2
      · cases e2
        refine .inl ⟨c, hs, oa, sl, w, _, b, w', S, e1, fun v H1 hs1 S1 x1 sb1 r1 => ?_⟩
        have r := r1.rep S x1 sb1
        obtain ⟨a, xs, rfl, ta, ra⟩ := rep_list (show Rep _ _ _ (.list ps) _ from r)
        exact ⟨a, rfl, ⟨xs, .inl (.inl ta)⟩, q _ H1 hs1 S1 x1 sb1 (wk_list r)⟩
      · cases e2
        refine .inr ⟨c, hs, oa, sl, w, _, b, w', S, e1, fun v H1 hs1 S1 x1 sb1 r1 => ?_⟩
        have r := r1.rep S x1 sb1
        obtain ⟨a, xs, rfl, ta, ra⟩ := rep_tup (show Rep _ _ _ (.tuple ps) _ from r)
        exact ⟨a, rfl, ⟨xs, ta.sq⟩, q _ H1 hs1 S1 x1 sb1 (wk_tup r)⟩
      · rename_i ns
        cases e2
        refine .inl ⟨c, hs, oa, sl, w, _, b, w', S, e1, fun v H1 hs1 S1 x1 sb1 r1 => ?_⟩
        obtain ⟨a, rfl, za⟩ := (show RepS _ _ _ _ (.z ns) v from r1.rep S x1 sb1)
        exact ⟨a, rfl, ⟨_, za.sq⟩, q _ H1 hs1 S1 x1 sb1 (wk_z za)⟩
      · cases e2
    · cases e
  · cases e

/-! ### range -/
theorem wk_rng {G : Gd} {O : Addr → Prop} {H : Hp} (lo : Int) (n : Nat) : Wk G (Itr lo n) ((List.range n).map fun i => PyData.int (lo + (i : Nat))) O H := by
  refine ⟨fun _ _ => True, trivial, fun _ _ _ _ _ _ => trivial, fun O H _ => ⟨fun i hi => by show i < n; simpa using hi, by show n ≤ _; simp, fun i x H' hi y => ?_⟩⟩
  obtain ⟨rfl, rfl⟩ := y
  refine ⟨Same.refl _, .int (lo + (i : Nat)), ?_, by rw [Rep]⟩
  rw [List.getElem?_map, List.getElem?_range (by simpa using hi)]
  rfl
theorem wk_rngC {G : Gd} {O : Addr → Prop} {H : Hp} (lo k : Int) (n : Nat) : Wk G (Itc lo k n) ((List.range n).map fun i => PyData.int (lo + (i : Nat) * k)) O H := by
  refine ⟨fun _ _ => True, trivial, fun _ _ _ _ _ _ => trivial, fun O H _ => ⟨fun i hi => by show i < n; simpa using hi, by show n ≤ _; simp, fun i x H' hi y => ?_⟩⟩
  obtain ⟨rfl, rfl⟩ := y
  refine ⟨Same.refl _, .int (lo + (i : Nat) * k), ?_, by rw [Rep]⟩
  rw [List.getElem?_map, List.getElem?_range (by simpa using hi)]
  rfl
def bd62 (i : Int) : Bool := decide (-(2 ^ 62) ≤ i) && decide (i < 2 ^ 62)
theorem bd62_of {i : Int} (h : bd62 i = true) : -(2 ^ 62) ≤ i ∧ i < 2 ^ 62 := by
  unfold bd62 at h
  rw [Bool.and_eq_true, decide_eq_true_eq, decide_eq_true_eq] at h
  exact h
def rngP : List SV → Option (List P)
  | [.d (.int j)] => if bd62 j = true then some ((List.range j.toNat).map fun i => PyData.int (i : Nat)) else none
  | [.d (.int i), .d (.int j)] => if (bd62 i && bd62 j) = true then some ((List.range (j - i).toNat).map fun k => PyData.int (i + (k : Nat))) else none
  | [.d (.int i), .d (.int j), .d (.int k)] => if (bd62 i && bd62 j && decide (k = -1)) = true then some ((List.range (i - j).toNat).map fun k => PyData.int (i - (k : Nat))) else none
  | _ => none
def iRng (fs : List Ex) : Ix := fun sl w => match evL fs sl w with
  | some (ss, w1) => (match rngP ss with
    | some ps => some (ps, w1)
    | none => none)
  | none => none
theorem repL1 {G : Gd} {H : Hp} {hs : List Addr} {O : Addr → Prop} {s : SV} {ss : List SV} {vs : List V} (h : RepL G H hs O (s :: ss) vs) : ∃ v r, vs = v :: r ∧ RepS G H hs O s v ∧ RepL G H hs O ss r := h
theorem repS_int {G : Gd} {H : Hp} {hs : List Addr} {O : Addr → Prop} {i : Int} {v : V} (h : RepS G H hs O (.d (.int i)) v) : v = .int i := by
  have : Rep G H O (.int i) v := h
  rw [Rep] at this; exact this
theorem pI_rng1 {X : Cx} {tg a : Expr} {fs : List Ex} {p pos : Pos} (hg : Gl X "range") (hm : X.mg "range" = none) (ha : PA X [a] (tL (gd X) fs)) (h1 : fs.length = 1) (hs : starEach [a] X.env = [(false, eval a X.env)]) : L2.PI X tg (.Call (.Name "range" p) [a] [] pos) (tI' (gd X) (iRng fs)) := (pi_range1 hg hm ha hs).imp fun σ H Q q => by
  obtain ⟨c, hs, oa, sl, w, ps, w', S, e, q⟩ := q
  unfold iRng at e
  split at e
  · rename_i ss w1 e1
    split at e
    · rename_i ps2 e2
      cases e
      refine ⟨c, hs, oa, sl, w, ss, w', S, e1, fun vs H1 hs1 S1 x1 sb1 r1 => ?_⟩
      have hl : ss.length = 1 := by
        match fs, h1 with
        | [f], _ =>
          unfold evL at e1
          split at e1
          · unfold evL at e1; simp at e1; rw [← e1.1]; rfl
          · cases e1
      match ss, hl with
      | [s], _ =>
        obtain ⟨v, r, rfl, rv, rr⟩ := repL1 r1
        cases (show r = [] from rr)
        unfold rngP at e2
        split at e2
        · rename_i j eq
          cases eq
          split at e2
          · rename_i hb
            cases e2
            obtain ⟨b1, b2⟩ := bd62_of hb
            refine ⟨j, by rw [repS_int rv], b1, b2, q _ H1 hs1 S1 x1 sb1 ?_⟩
            have := wk_rng (G := gd X) (O := Off c hs1 w'.own oa) (H := H1) 0 j.toNat
            simpa using this
          · cases e2
        · rename_i eq; cases eq
        · rename_i eq; cases eq
        · cases e2
    · cases e
  · cases e
theorem evL_length : ∀ {fs : List Ex} {sl : Slots} {w : W} {ss : List SV} {w' : W}, evL fs sl w = some (ss, w') → ss.length = fs.length
  | [], _, _, _, _, e => by unfold evL at e; cases e; rfl
  | f :: fs, sl, w, ss, w', e => by
    unfold evL at e
    split at e
    · split at e
      · rename_i e2; cases e; rw [List.length_cons, List.length_cons, evL_length e2]
      · cases e
    · cases e
theorem pI_rng2 {X : Cx} {tg a b : Expr} {fs : List Ex} {p pos : Pos} (hg : Gl X "range") (hm : X.mg "range" = none) (ha : PA X [a, b] (tL (gd X) fs)) (h1 : fs.length = 2) (hs : starEach [a, b] X.env = [(false, eval a X.env), (false, eval b X.env)]) (hs2 : starEach [b] X.env = [(false, eval b X.env)]) : L2.PI X tg (.Call (.Name "range" p) [a, b] [] pos) (tI' (gd X) (iRng fs)) := (pi_range2 hg hm ha hs hs2).imp fun σ H Q q => by
  obtain ⟨c, hs, oa, sl, w, ps, w', S, e, q⟩ := q
  unfold iRng at e
  split at e
  · rename_i ss w1 e1
    split at e
    · rename_i ps2 e2
      cases e
      refine ⟨c, hs, oa, sl, w, ss, w', S, e1, fun vs H1 hs1 S1 x1 sb1 r1 => ?_⟩
      have hl : ss.length = 2 := (evL_length e1).trans h1
      match ss, hl with
      | [s, s2], _ =>
        obtain ⟨v, r, rfl, rv, rr⟩ := repL1 r1
        obtain ⟨v2, r2, rfl, rv2, rr2⟩ := repL1 rr
        cases (show r2 = [] from rr2)
        unfold rngP at e2
        split at e2
        · rename_i eq; cases eq
        · rename_i i j eq
          cases eq
          split at e2
          · rename_i hb
            cases e2
            rw [Bool.and_eq_true] at hb
            obtain ⟨b1, b2⟩ := bd62_of hb.1
            obtain ⟨b3, b4⟩ := bd62_of hb.2
            exact ⟨i, j, by rw [repS_int rv, repS_int rv2], ⟨b1, b2, b3, b4⟩, q _ H1 hs1 S1 x1 sb1 (wk_rng i (j - i).toNat)⟩
          · cases e2
        · rename_i eq; cases eq
        · cases e2
    · cases e
  · cases e
theorem pI_rng3 {X : Cx} {tg a b d : Expr} {fs : List Ex} {p pos : Pos} (hg : Gl X "range") (hm : X.mg "range" = none) (ha : PA X [a, b, d] (tL (gd X) fs)) (h1 : fs.length = 3)
    (hs : starEach [a, b, d] X.env = (false, eval a X.env) :: starEach [b, d] X.env) (hpl : (backTo pos (starEach [b, d] X.env)).any (·.1) = false) : L2.PI X tg (.Call (.Name "range" p) [a, b, d] [] pos) (tI' (gd X) (iRng fs)) := (pi_range3 hg hm ha hs hpl).imp fun σ H Q q => by
  obtain ⟨c, hs, oa, sl, w, ps, w', S, e, q⟩ := q
  unfold iRng at e
  split at e
  · rename_i ss w1 e1
    split at e
    · rename_i ps2 e2
      cases e
      refine ⟨c, hs, oa, sl, w, ss, w', S, e1, fun vs H1 hs1 S1 x1 sb1 r1 => ?_⟩
      have hl : ss.length = 3 := (evL_length e1).trans h1
      match ss, hl with
      | [s, s2, s3], _ =>
        obtain ⟨v, r, rfl, rv, rr⟩ := repL1 r1
        obtain ⟨v2, r2, rfl, rv2, rr2⟩ := repL1 rr
        obtain ⟨v3, r3, rfl, rv3, rr3⟩ := repL1 rr2
        cases (show r3 = [] from rr3)
        unfold rngP at e2
        split at e2
        · rename_i eq; cases eq
        · rename_i eq; cases eq
        · rename_i i j k eq
          cases eq
          split at e2
          · rename_i hb
            cases e2
            rw [Bool.and_eq_true, Bool.and_eq_true, decide_eq_true_eq] at hb
            obtain ⟨⟨hb1, hb2⟩, rfl⟩ := hb
            obtain ⟨b1, b2⟩ := bd62_of hb1
            obtain ⟨b3, b4⟩ := bd62_of hb2
            refine ⟨i, j, -1, (i - j).toNat, by rw [repS_int rv, repS_int rv2, repS_int rv3], RgC.neg b1 b2 b3 b4, q _ H1 hs1 S1 x1 sb1 ?_⟩
            have := wk_rngC (G := gd X) (O := Off c hs1 w'.own oa) (H := H1) i (-1) (i - j).toNat
            have ef : ((List.range (i - j).toNat).map fun k => PyData.int (i + (k : Nat) * (-1))) = (List.range (i - j).toNat).map fun k => PyData.int (i - (k : Nat)) := by
              apply List.map_congr_left
              intro k _
              congr 1
              omega
            rw [ef] at this
            exact this
          · cases e2
        · cases e2
    · cases e
  · cases e

/-! ### enumerate, zip -/
def seqP : SV → Option (List P)
  | .d (.list ps) => some ps
  | .d (.tuple ps) => some ps
  | _ => none
/-- a list or a tuple stands there -/
def SqP (G : Gd) (b : Bool) (ps : List P) (a : Addr) (O : Addr → Prop) (H : Hp) : Prop := Rep G H O (if b = true then .list ps else .tuple ps) (.ref a)
theorem SqP.get {G : Gd} {b : Bool} {ps : List P} {a : Addr} {O : Addr → Prop} {H : Hp} (h : SqP G b ps a O H) : ∃ xs, SqK b G.K H a xs ∧ Reps G H O ps xs := by
  unfold SqP at h
  cases b with
  | true =>
    rw [if_pos rfl] at h
    obtain ⟨b, xs, e, q, r⟩ := rep_list h
    cases e
    exact ⟨xs, .inl (.inl q), r⟩
  | false =>
    rw [if_neg Bool.false_ne_true] at h
    obtain ⟨b, xs, e, q, r⟩ := rep_tup h
    cases e
    exact ⟨xs, q.sq, r⟩
theorem seqP_get {G : Gd} {H : Hp} {hs : List Addr} {O : Addr → Prop} {s : SV} {ps : List P} {v : V} (e : seqP s = some ps) (r : RepS G H hs O s v) : ∃ b a, v = .ref a ∧ SqP G b ps a O H := by
  unfold seqP at e
  split at e
  · cases e
    have r' : Rep G H O (.list ps) v := r
    obtain ⟨a, xs, rfl, q, rs⟩ := rep_list r'
    exact ⟨true, a, rfl, by unfold SqP; rw [if_pos rfl]; exact r'⟩
  · cases e
    have r' : Rep G H O (.tuple ps) v := r
    obtain ⟨a, xs, rfl, q, rs⟩ := rep_tup r'
    exact ⟨false, a, rfl, by unfold SqP; rw [if_neg Bool.false_ne_true]; exact r'⟩
  · cases e
theorem SqP.keep {G : Gd} {b : Bool} {ps : List P} {a : Addr} {O O' : Addr → Prop} {H H' : Hp} (k : Keep O H O' H') (h : SqP G b ps a O H) : SqP G b ps a O' H' := Rep.keep k _ _ h
def enumL : List P → Nat → List P
  | [], _ => []
  | p :: ps, i => .tuple [.int (i : Nat), p] :: enumL ps (i + 1)
theorem enumL_length : ∀ {ps : List P} {i : Nat}, (enumL ps i).length = ps.length
  | [], _ => rfl
  | p :: ps, i => by unfold enumL; rw [List.length_cons, List.length_cons, enumL_length]
theorem enumL_get : ∀ {ps : List P} {i k : Nat} {p : P}, ps[k]? = some p → (enumL ps i)[k]? = some (.tuple [.int ((i + k : Nat)), p])
  | [], _, _, _, e => by simp at e
  | q :: ps, i, 0, p, e => by simp at e; subst e; rfl
  | q :: ps, i, k + 1, p, e => by
    have := enumL_get (i := i + 1) (k := k) (p := p) (by simpa using e)
    unfold enumL
    rw [List.getElem?_cons_succ, this, show i + 1 + k = i + (k + 1) by omega]
def iEnum (f : Ex) : Ix := fun sl w => match evL [f] sl w with
  | some ([s], w1) => (match seqP s with
    | some ps => some (enumL ps 0, w1)
    | none => none)
  | _ => none
theorem pI_enum {X : Cx} {e : Expr} {f : Ex} {p pos tpos : Pos} {elts : List Expr} {kk : Nat} (hg : Gl X "enumerate") (hm : X.mg "enumerate" = none) (ha : PA X [e] (tL (gd X) [f])) (hs : starEach [e] X.env = [(false, eval e X.env)]) :
    L2.PI X (.Tuple elts kk tpos) (.Call (.Name "enumerate" p) [e] [] pos) (tI' (gd X) (iEnum f)) := (pi_enumK hg hm ha hs).imp fun σ H Q q => by
  obtain ⟨c, hs, oa, sl, w, ps, w', S, e, q⟩ := q
  unfold iEnum at e
  split at e
  · rename_i s w1 e1
    split at e
    · rename_i ps2 e2
      cases e
      refine ⟨c, hs, oa, sl, w, _, w', S, e1, fun vs H1 hs1 S1 x1 sb1 r1 => ?_⟩
      obtain ⟨v, r, rfl, rv, rr⟩ := repL1 r1
      cases (show r = [] from rr)
      obtain ⟨b, a, rfl, sq⟩ := seqP_get e2 rv
      obtain ⟨xs, qx, rx⟩ := sq.get
      refine ⟨b, a, xs, rfl, qx, q _ H1 hs1 S1 x1 sb1 ⟨SqP (gd X) b ps2 a, sq, fun O H O' H' r k => r.keep k, fun O H r => ?_⟩⟩
      obtain ⟨xs, qx, rx⟩ := r.get
      have hl := reps_length rx
      rw [enumL_length]
      refine ⟨fun i hi => ⟨xs, xs[i], qx, List.getElem?_eq_getElem (by omega)⟩, ⟨xs, qx, by omega⟩, fun i x H' hi y => ?_⟩
      obtain ⟨T, y1, rfl, hT, rfl, hy⟩ := y
      obtain ⟨p2, e3, r3⟩ := reps_get' rx (hy xs qx)
      refine ⟨same_new hT, _, enumL_get e3, ?_⟩
      rw [Rep]
      refine ⟨T, _, rfl, .inl upd_same, reps_cons ?_ (reps_cons (Rep.keep (.grow (same_new hT)) _ _ r3) reps_nil)⟩
      rw [Rep, Nat.zero_add]
    · cases e
  · cases e
def zipL : List P → List P → List P
  | p :: ps, q :: qs => .tuple [p, q] :: zipL ps qs
  | _, _ => []
theorem zipL_length : ∀ {ps qs : List P}, (zipL ps qs).length = min ps.length qs.length
  | [], _ => by simp [zipL]
  | _ :: _, [] => by simp [zipL]
  | p :: ps, q :: qs => by unfold zipL; rw [List.length_cons, zipL_length, List.length_cons, List.length_cons]; omega
theorem zipL_get : ∀ {ps qs : List P} {k : Nat} {p q : P}, ps[k]? = some p → qs[k]? = some q → (zipL ps qs)[k]? = some (.tuple [p, q])
  | [], _, _, _, _, e, _ => by simp at e
  | _ :: _, [], _, _, _, _, e => by simp at e
  | p :: ps, q :: qs, 0, _, _, e1, e2 => by simp at e1 e2; subst e1 e2; rfl
  | p :: ps, q :: qs, k + 1, _, _, e1, e2 => by
    unfold zipL
    rw [List.getElem?_cons_succ]
    exact zipL_get (by simpa using e1) (by simpa using e2)
def iZipP (f g : Ex) : Ix := fun sl w => match evL [f, g] sl w with
  | some ([s, t], w1) => (match seqP s, seqP t with
    | some ps, some qs => some (zipL ps qs, w1)
    | _, _ => none)
  | _ => none
theorem pI_zip {X : Cx} {e e2 : Expr} {f g : Ex} {p pos tpos : Pos} {elts : List Expr} {kk : Nat} (hg : Gl X "zip") (hm : X.mg "zip" = none) (ha : PA X [e, e2] (tL (gd X) [f, g]))
    (hs : starEach [e, e2] X.env = (false, eval e X.env) :: starEach [e2] X.env) (hpl : (backTo pos (starEach [e2] X.env)).any (·.1) = false) :
    L2.PI X (.Tuple elts kk tpos) (.Call (.Name "zip" p) [e, e2] [] pos) (tI' (gd X) (iZipP f g)) := (pi_zipK hg hm ha hs hpl).imp fun σ H Q q => by
  obtain ⟨c, hs, oa, sl, w, ps, w', S, e, q⟩ := q
  unfold iZipP at e
  split at e
  · rename_i s t w1 e1
    split at e
    · rename_i ps2 qs2 e2 e3
      cases e
      refine ⟨c, hs, oa, sl, w, _, w', S, e1, fun vs H1 hs1 S1 x1 sb1 r1 => ?_⟩
      obtain ⟨v, r, rfl, rv, rr⟩ := repL1 r1
      obtain ⟨v2, r2, rfl, rv2, rr2⟩ := repL1 rr
      cases (show r2 = [] from rr2)
      obtain ⟨b, a, rfl, sq⟩ := seqP_get e2 rv
      obtain ⟨b2, a2, rfl, sq2⟩ := seqP_get e3 rv2
      obtain ⟨xs, qx, rx⟩ := sq.get
      obtain ⟨ys, qy, ry⟩ := sq2.get
      refine ⟨b, b2, a, a2, xs, ys, rfl, qx, qy, q _ H1 hs1 S1 x1 sb1 ⟨fun O H => SqP (gd X) b ps2 a O H ∧ SqP (gd X) b2 qs2 a2 O H, ⟨sq, sq2⟩, fun O H O' H' r k => ⟨r.1.keep k, r.2.keep k⟩, fun O H r => ?_⟩⟩
      obtain ⟨xs, qx, rx⟩ := r.1.get
      obtain ⟨ys, qy, ry⟩ := r.2.get
      have hl := reps_length rx
      have hl2 := reps_length ry
      rw [zipL_length]
      refine ⟨fun i hi => ⟨xs, ys, xs[i]'(by omega), ys[i]'(by omega), qx, qy, List.getElem?_eq_getElem (by omega), List.getElem?_eq_getElem (by omega)⟩, ⟨xs, ys, qx, qy, by omega⟩, fun i x H' hi y => ?_⟩
      obtain ⟨T, y1, y2, rfl, hT, rfl, hy1, hy2⟩ := y
      obtain ⟨p2, e3, r3⟩ := reps_get' rx (hy1 xs qx)
      obtain ⟨p4, e4, r4⟩ := reps_get' ry (hy2 ys qy)
      refine ⟨same_new hT, _, zipL_get e3 e4, ?_⟩
      rw [Rep]
      exact ⟨T, _, rfl, .inl upd_same, reps_cons (Rep.keep (.grow (same_new hT)) _ _ r3) (reps_cons (Rep.keep (.grow (same_new hT)) _ _ r4) reps_nil)⟩
    · cases e
  · cases e
end PI
/-! PI11: a place kept off, names as targets, list comprehensions. -/
namespace PI
open PySem PySem.Spec L2

/-! ### one more object kept off -/
def Cn.add (c : Cn) (p : Addr) (u : HO) : Cn := ⟨fun a => if a = p then some u else c.He a, fun a => c.F a ∨ a = p, c.h0⟩
section
variable {G : Gd} {c : Cn} {hs hs' : List Addr} {oa oa' : Nat → Addr} {sl sl' : Slots} {w w' : W} {σ σ' : L2.St} {H H' : Hp} {O O' : Addr → Prop} {p : Addr} {u u' : HO}
theorem off_add {own : List Nat} : ∀ a, Off (c.add p u) hs own oa a ↔ Off c hs own oa a ∨ a = p := fun a =>
  ⟨fun z => z.elim (fun z => z.elim (fun z => .inl (.inl z)) .inr) fun z => .inl (.inr z), fun z => z.elim (fun z => z.elim (fun z => .inl (.inl z)) fun z => .inr z) fun z => .inl (.inr z)⟩
theorem add_he_ne {a : Addr} (h : a ≠ p) : (c.add p u).He a = c.He a := if_neg h
theorem add_he : (c.add p u).He p = some u := if_pos rfl
/-- a new object: kept off from here on -/
theorem SRel.addNew (S : SRel G c hs oa sl w σ H) (hp : H p = none) : SRel G (c.add p u) hs oa sl w σ (upd H p u) := by
  have sm : Same H (upd H p u) := same_new hp
  have k : Keep (Off c hs w.own oa) H (Off (c.add p u) hs w.own oa) (upd H p u) := (Keep.more hp).trans ((Keep.grow sm).trans (.less fun a z => off_add a |>.mp z))
  have hne : ∀ a u, H a = some u → a ≠ p := fun a u e z => by rw [z, hp] at e; cases e
  refine ⟨S.len, fun i sv e n => ?_, fun i hi => ?_, S.inj, fun i hi => ?_, S.nd, ?_, S.hnd, S.hown, fun a z => ?_, fun a v n e t => ?_, fun a ha => ?_, S.hpre, fun a ps e => ?_, tb_same sm S.tb⟩
  · obtain ⟨v, e1, r⟩ := S.slot i sv e n
    exact ⟨v, e1, r.keep k (List.prefix_refl _)⟩
  · obtain ⟨sv, e1, e2, o⟩ := S.owns i hi
    exact ⟨sv, e1, e2, o.keep k fun u e _ => sm _ _ e⟩
  · obtain ⟨v, e⟩ := S.some_own hi
    rw [add_he_ne (hne _ _ e)]
    exact S.new i hi
  · exact ⟨S.sto.1, fun n ns e => by obtain ⟨a, e1, e2⟩ := S.sto.2 n ns e; exact ⟨a, e1, sm _ _ e2⟩⟩
  · rcases z with z | z
    · obtain ⟨⟨v, e⟩, n⟩ := S.fd a z
      obtain ⟨v', e'⟩ := S.any n e
      exact ⟨⟨v, by rw [add_he_ne (hne a v' e')]; exact e⟩, n⟩
    · subst z
      exact ⟨⟨u, add_he⟩, fun z => S.off_none hp (.inr (.inl z))⟩
  · by_cases ha : a = p
    · subst ha
      rw [add_he] at e
      rw [upd_same]
      exact e
    · rw [add_he_ne ha] at e
      rw [upd_ne ha]
      exact S.ext a v n e t
  · obtain ⟨ns, e⟩ := S.sto.at_ ha
    rw [add_he_ne (hne a _ e)]
    exact S.h0 a ha
  · by_cases ha : a = p
    · subst ha
      rw [add_he] at e
      exact ⟨ps, by rw [upd_same]; exact e⟩
    · rw [add_he_ne ha] at e
      obtain ⟨qs, q⟩ := S.tbl a ps e
      exact ⟨qs, sm _ _ q⟩
/-- it has been written -/
theorem SRel.addSet (S : SRel G (c.add p u) hs oa sl w σ H) (h : Plain u) : SRel G (c.add p u') hs oa sl w σ (upd H p u') := by
  have hp : H p = some u := S.ext p u (S.fd p (.inr rfl)).2 add_he h.2.2.1
  have eo : ∀ a, Off (c.add p u') hs w.own oa a ↔ Off (c.add p u) hs w.own oa a := fun a => (off_add a).trans (off_add a).symm
  have k : Keep (Off (c.add p u) hs w.own oa) H (Off (c.add p u') hs w.own oa) (upd H p u') := by
    refine ⟨fun a v n e t => ?_, fun a xs e => ?_, fun a o xs e => ?_, fun a v n e z => n ((eo a).mp z), fun a ps e => ⟨ps, ?_⟩, tb_upd hp h.2.2.1 h.2.2.2⟩
    · rw [upd_ne (fun z => n (by rw [z]; exact .inl (.inr rfl)))]; exact e
    · rw [upd_ne (fun z => by rw [z, hp] at e; exact h.1 xs (Option.some.inj e))]; exact e
    · rw [upd_ne (fun z => by rw [z, hp] at e; exact h.2.1 o _ (Option.some.inj e))]; exact e
    · rw [upd_ne (fun z => by rw [z, hp] at e; exact h.2.2.1 _ (Option.some.inj e))]; exact e
  have hnp : ∀ i, i ∈ w.own → oa i ≠ p := fun i hi z => by
    have := S.new i hi
    rw [z, add_he] at this; cases this
  have hhp : p ∉ hs := (S.fd p (.inr rfl)).2
  have he : ∀ a, a ≠ p → (c.add p u').He a = (c.add p u).He a := fun a h => by rw [add_he_ne h, add_he_ne h]
  refine ⟨S.len, fun i sv e n => ?_, fun i hi => ?_, S.inj, fun i hi => ?_, S.nd, ?_, S.hnd, S.hown, fun a z => ?_, fun a v n e t => ?_, fun a ha => ?_, S.hpre, fun a ps e => ?_, tb_upd hp h.2.2.1 h.2.2.2 S.tb⟩
  · obtain ⟨v, e1, r⟩ := S.slot i sv e n
    exact ⟨v, e1, r.keep k (List.prefix_refl _)⟩
  · obtain ⟨sv, e1, e2, o⟩ := S.owns i hi
    exact ⟨sv, e1, e2, o.keep k fun u e _ => by rw [upd_ne (hnp i hi)]; exact e⟩
  · rw [he _ (hnp i hi)]; exact S.new i hi
  · exact ⟨S.sto.1, fun n ns e => by obtain ⟨a, e1, e2⟩ := S.sto.2 n ns e; exact ⟨a, e1, by rw [upd_ne (fun z => hhp (by rw [← z]; exact List.mem_of_getElem? e1))]; exact e2⟩⟩
  · by_cases ha : a = p
    · subst ha; exact ⟨⟨u', add_he⟩, hhp⟩
    · rw [he a ha]; exact S.fd a z
  · by_cases ha : a = p
    · subst ha
      rw [add_he] at e
      rw [upd_same]; exact e
    · rw [he a ha] at e
      rw [upd_ne ha]; exact S.ext a v n e t
  · by_cases h : a = p
    · subst h; exact absurd ha hhp
    · rw [he a h]; exact S.h0 a ha
  · by_cases ha : a = p
    · subst ha
      rw [add_he] at e
      exact ⟨ps, by rw [upd_same]; exact e⟩
    · rw [he a ha] at e
      obtain ⟨qs, q⟩ := S.tbl a ps e
      exact ⟨qs, by rw [upd_ne ha]; exact q⟩
/-- no more kept off -/
theorem SRel.drop (S : SRel G (c.add p u) hs oa sl w σ H) (h1 : c.He p = none) (h2 : ¬ c.F p) : SRel G c hs oa sl w σ H := by
  have k : Keep (Off (c.add p u) hs w.own oa) H (Off c hs w.own oa) H := .less fun a z => (off_add a).mpr (.inl z)
  have hnp : ∀ i, i ∈ w.own → oa i ≠ p := fun i hi z => by
    have := S.new i hi
    rw [z, add_he] at this; cases this
  have hhp : p ∉ hs := (S.fd p (.inr rfl)).2
  refine ⟨S.len, fun i sv e n => ?_, fun i hi => ?_, S.inj, fun i hi => ?_, S.nd, S.sto, S.hnd, S.hown, fun a z => ?_, fun a v n e t => ?_, fun a ha => ?_, S.hpre, fun a ps e => ?_, S.tb⟩
  · obtain ⟨v, e1, r⟩ := S.slot i sv e n
    exact ⟨v, e1, r.keep k (List.prefix_refl _)⟩
  · obtain ⟨sv, e1, e2, o⟩ := S.owns i hi
    exact ⟨sv, e1, e2, o.keep k fun u e _ => e⟩
  · rw [← add_he_ne (u := u) (hnp i hi)]; exact S.new i hi
  · have ha : a ≠ p := fun z' => h2 (by rw [← z']; exact z)
    have := S.fd a (.inl z)
    rw [add_he_ne ha] at this; exact this
  · have ha : a ≠ p := fun z' => by rw [z', h1] at e; cases e
    exact S.ext a v n (by rw [add_he_ne ha]; exact e) t
  · by_cases h : a = p
    · subst h; exact absurd ha hhp
    · have := S.h0 a ha
      rw [add_he_ne h] at this; exact this
  · have ha : a ≠ p := fun z' => by rw [z', h1] at e; cases e
    exact S.tbl a ps (by rw [add_he_ne ha]; exact e)
/-- names as they were, over an expression -/
theorem SRel.back (S : SRel G c hs oa sl w σ H) (x : Ext hs H hs' H') (sb : Sub w' w) (S' : SRel G c hs' oa' sl' w' σ' H') (ho : ∀ i, i ∈ w'.own → oa' i = oa i) : SRel G c hs' oa sl w' σ H' := by
  have S2 := S.sub (own := w'.own) sb S'.nd
  have k : Keep (Off c hs w'.own oa) H (Off c hs' w'.own oa) H' := x.keep (w := { w with own := w'.own }) (w' := w') Sub.refl
  refine ⟨S.len, fun i sv e n => ?_, fun i hi => ?_, S2.inj, S2.new, S'.nd, S'.sto, S'.hnd, fun i hi => by rw [← ho i hi]; exact S'.hown i hi, S'.fd, S'.ext, S'.h0, S'.hpre, S'.tbl, S'.tb⟩
  · obtain ⟨v, e1, r⟩ := S2.slot i sv e n
    exact ⟨v, e1, r.keep k x.pre⟩
  · obtain ⟨sv, e1, e2, o⟩ := S2.owns i hi
    exact ⟨sv, e1, e2, o.keep k fun u q t => x.same _ u (S2.hown i hi) q t⟩
end

/-! ### names as targets -/
def tN (G : Gd) (vs : List Nat) (g : Tx) : TG := fun v σ H Q => ∃ c hs oa sl w sv sl' w', SRel G c hs oa sl w σ H ∧ RepS G H hs (Off c hs w.own oa) sv v ∧ g sv sl w = some (sl', w') ∧
  ∀ σ' H', Same H H' → SRel G c hs oa sl' w' σ' H' → Sub w' w → (∀ j, j ∉ vs → σ'[j]? = σ[j]?) → σ'.length = σ.length → Q σ' H'
def tNs (G : Gd) (vs : List Nat) (gs : List Tx) : TGs := fun us σ H Q => ∃ c hs oa sl w ps sl' w', SRel G c hs oa sl w σ H ∧ Reps G H (Off c hs w.own oa) ps us ∧ gL gs ps sl w = some (sl', w') ∧
  ∀ σ' H', Same H H' → SRel G c hs oa sl' w' σ' H' → Sub w' w → (∀ j, j ∉ vs → σ'[j]? = σ[j]?) → σ'.length = σ.length → Q σ' H'
theorem tN_v {G : Gd} {i : Nat} {vs : List Nat} (hi : i ∈ vs) {v : V} {σ : L2.St} {H : Hp} {Q : L2.St → Hp → Prop} (h : tN G vs (gV i) v σ H Q) : gName i v σ H Q := by
  obtain ⟨c, hs, oa, sl, w, sv, sl', w', S, r, e, q⟩ := h
  cases e
  exact q _ H (Same.refl _) (S.set (r.keep (.less off_erase) (List.prefix_refl _))) (fun j hj => List.mem_of_mem_erase hj) (fun j hj => by rw [List.getElem?_set_ne (fun z => hj (by rw [← z]; exact hi))]) (by rw [List.length_set])
theorem pN_nil {X : Cx} {vs : List Nat} : PGs X [] (tNs (gd X) vs []) := pgs_nil.imp fun us σ H Q h => by
  obtain ⟨c, hs, oa, sl, w, ps, sl', w', S, r, e, q⟩ := h
  cases ps with
  | nil =>
    cases e
    rw [Reps] at r
    exact ⟨r, q σ H (Same.refl _) S .refl (fun _ _ => rfl) rfl⟩
  | cons p ps => cases e
theorem pN_cons {X : Cx} {vs : List Nat} {e : Expr} {es : List Expr} {g : Tx} {gs : List Tx} (h1 : PG X e (tN (gd X) vs g)) (h2 : PGs X es (tNs (gd X) vs gs))
    (hs : (assignEach (e :: es) X.env).map (·.2) = assign e X.env :: (assignEach es X.env).map (·.2)) : PGs X (e :: es) (tNs (gd X) vs (g :: gs)) := (pgs_cons h1 h2 hs).imp fun us σ H Q h => by
  obtain ⟨c, hs, oa, sl, w, ps, sl', w', S, r, e, q⟩ := h
  cases ps with
  | nil => cases e
  | cons p ps =>
    unfold gL at e
    split at e
    · rename_i sl1 w1 e1
      rw [Reps] at r
      obtain ⟨x, xs, rfl, r1, r2⟩ := r
      refine ⟨x, xs, rfl, c, hs, oa, sl, w, .d p, sl1, w1, S, r1, e1, fun σ1 H1 sm1 S1 sb1 n1 l1 => ?_⟩
      have k1 : Keep (Off c hs w.own oa) H (Off c hs w1.own oa) H1 := (Keep.grow sm1).trans (.less fun a z => z.elim .inl fun z => .inr (z.elim .inl fun ⟨j, hj, z⟩ => .inr ⟨j, sb1 j hj, z⟩))
      exact ⟨c, hs, oa, sl1, w1, ps, sl', w', S1, r2.keep k1 _ _, e, fun σ2 H2 sm2 S2 sb2 n2 l2 => q σ2 H2 (fun a u e => sm2 a u (sm1 a u e)) S2 (sb1.trans sb2) (fun j hj => (n2 j hj).trans (n1 j hj)) (l2.trans l1)⟩
    · cases e
theorem pN_tup {X : Cx} {vs : List Nat} {es : List Expr} {k : Nat} {gs : List Tx} {pos : Pos} (hc : X.calm = true) (h : PGs X es (tNs (gd X) vs gs))
    (hn : (assignEach es X.env).length = gs.length) (hst : (assignEach es X.env).findIdx? (·.1) = none) : PG X (.Tuple es k pos) (tN (gd X) vs (gT gs)) := (pg_tup hc h hn hst).imp fun v σ H Q h => by
  obtain ⟨c, hs, oa, sl, w, sv, sl', w', S, r, e, q⟩ := h
  unfold gT at e
  split at e
  · rename_i ps
    obtain ⟨a, xs, rfl, ta, ra⟩ := rep_tup (show Rep _ _ _ (.tuple ps) v from r)
    exact ⟨a, xs, rfl, ta.sq, by rw [← reps_length ra, gL_length e], c, hs, oa, sl, w, ps, sl', w', S, ra, e, q⟩
  · cases e
theorem pN_unl {X : Cx} {vs : List Nat} {es : List Expr} {k : Nat} {gs : List Tx} {pos : Pos} (hc : X.calm = true) (h : PGs X es (tNs (gd X) vs gs))
    (hn : (assignEach es X.env).length = gs.length) (hst : (assignEach es X.env).findIdx? (·.1) = none) : PG X (.Tuple es k pos) (tN (gd X) vs (gU gs)) := (pg_unl hc h hn hst).imp fun v σ H Q h => by
  obtain ⟨c, hs, oa, sl, w, sv, sl', w', S, r, e, q⟩ := h
  unfold gU at e
  split at e
  · rename_i ps
    obtain ⟨a, xs, rfl, ta, ra⟩ := rep_list (show Rep _ _ _ (.list ps) v from r)
    exact ⟨a, xs, rfl, .inl (.inl ta), by rw [← reps_length ra, gL_length e], c, hs, oa, sl, w, ps, sl', w', S, ra, e, q⟩
  · cases e
theorem pG_ofN {X : Cx} {tg : Expr} {vs : List Nat} {g : Tx} (h : PG X tg (tN (gd X) vs g)) : PG X tg (tG (gd X) g) := h.imp fun v σ H Q q => by
  obtain ⟨c, hs, oa, sl, w, sv, sl', w', S, r, e, q⟩ := q
  refine ⟨c, hs, oa, sl, w, sv, sl', w', S, r, e, fun σ' H' sm S' sb _ _ => q σ' H' hs oa S' ?_ (List.prefix_refl _)⟩
  exact (Keep.grow sm).trans (.less fun a z => z.elim .inl fun z => .inr (z.elim .inl fun ⟨j, hj, z⟩ => .inr ⟨j, sb j hj, z⟩))

/-! ### list comprehensions -/
def wipeS (sl : Slots) : List Nat → Slots
  | [] => sl
  | v :: vs => (wipeS sl vs).set v none
def lcGo (g : Tx) (t : Bx) (e : Ex) : List P → Slots → W → Option (List P × W)
  | [], _, w => some ([], w)
  | x :: xs, sl, w => match g (.d x) sl w with
    | some (sl1, w1) => (match t sl1 w1 with
      | some (true, w2) => (match e sl1 w2 with
        | some ((.d y, _), w3) => (match lcGo g t e xs sl w3 with
          | some (ys, w4) => some (y :: ys, w4)
          | none => none)
        | _ => none)
      | some (false, w2) => lcGo g t e xs sl w2
      | none => none)
    | none => none
def wOut (w : W) (vs : List Nat) : W := { w with own := w.own.filter fun i => decide (i ∉ vs) }
def xLc (f : Ix) (vs : List Nat) (g : Tx) (t : Bx) (e : Ex) : Ex := fun sl w => match f sl w with
  | some (ps, w1) => if ps.length ≤ sizeLine then (match lcGo g t e ps (wipeS sl vs) (wOut w1 vs) with
    | some (ys, w2) => some ((.d (.list ys), true), w2)
    | none => none) else none
  | none => none
section
variable {G : Gd} {c : Cn} {hs hs' : List Addr} {oa oa' : Nat → Addr} {sl sl' : Slots} {w w' : W} {σ σ' : L2.St} {H H' : Hp} {O O' : Addr → Prop} {p : Addr} {u u' : HO}
theorem wipeS_length (sl : Slots) : ∀ vs, (wipeS sl vs).length = sl.length
  | [] => rfl
  | v :: vs => by unfold wipeS; rw [List.length_set, wipeS_length sl vs]
theorem wipeS_some {i : Nat} {x : SV} : ∀ {vs : List Nat}, (wipeS sl vs)[i]? = some (some x) → sl[i]? = some (some x) ∧ i ∉ vs
  | [], h => ⟨h, by simp⟩
  | v :: vs, h => by
    unfold wipeS at h
    by_cases hi : v = i
    · subst hi
      by_cases hv : v < (wipeS sl vs).length
      · rw [List.getElem?_set_self hv] at h; cases h
      · rw [List.getElem?_eq_none (by simpa using hv)] at h; cases h
    · rw [List.getElem?_set_ne hi] at h
      obtain ⟨h1, h2⟩ := wipeS_some h
      exact ⟨h1, by simp only [List.mem_cons, not_or]; exact ⟨fun e => hi e.symm, h2⟩⟩
theorem wipeS_ne {i : Nat} : ∀ {vs : List Nat}, i ∉ vs → (wipeS sl vs)[i]? = sl[i]?
  | [], _ => rfl
  | v :: vs, h => by
    rw [List.mem_cons, not_or] at h
    unfold wipeS
    rw [List.getElem?_set_ne (Ne.symm h.1)]
    exact wipeS_ne h.2
theorem wipe_ne {i : Nat} : ∀ {vs : List Nat}, i ∉ vs → (wipe σ vs)[i]? = σ[i]?
  | [], _ => rfl
  | v :: vs, h => by
    rw [List.mem_cons, not_or] at h
    unfold wipe
    rw [List.getElem?_set_ne (Ne.symm h.1)]
    exact wipe_ne h.2
theorem wipe_in {i : Nat} : ∀ {vs : List Nat}, i ∈ vs → i < σ.length → (wipe σ vs)[i]? = some none
  | v :: vs, h, hl => by
    unfold wipe
    by_cases e : v = i
    · subst e
      rw [List.getElem?_set_self (by rw [wipe_length]; exact hl)]
    · rw [List.getElem?_set_ne e]
      exact wipe_in ((List.mem_cons.mp h).elim (fun z => absurd z.symm e) id) hl
theorem wipe_same {vs : List Nat} {σ2 : L2.St} (h : ∀ j, j ∉ vs → σ2[j]? = (wipe σ vs)[j]?) (hl : σ2.length = (wipe σ vs).length) : wipe σ2 vs = wipe σ vs := by
  apply List.ext_getElem?
  intro i
  by_cases hi : i ∈ vs
  · by_cases hb : i < σ.length
    · rw [wipe_in hi hb, wipe_in hi (by rw [hl, wipe_length]; exact hb)]
    · rw [List.getElem?_eq_none (by rw [wipe_length, hl, wipe_length]; omega), List.getElem?_eq_none (by rw [wipe_length]; omega)]
  · rw [wipe_ne hi, h i hi]
theorem SRel.wipe {vs : List Nat} (S : SRel G c hs oa sl w σ H) : SRel G c hs oa (wipeS sl vs) (wOut w vs) (L2.wipe σ vs) H := by
  have hf : ∀ i, i ∈ (wOut w vs).own → i ∈ w.own ∧ i ∉ vs := fun i hi => by
    have := List.mem_filter.mp hi
    exact ⟨this.1, of_decide_eq_true this.2⟩
  have S2 := S.sub (own := (wOut w vs).own) (fun i hi => (hf i hi).1) (S.nd.sublist List.filter_sublist)
  refine ⟨by rw [wipeS_length, wipe_length]; exact S.len, fun i sv e n => ?_, fun i hi => ?_, S2.inj, S2.new, S2.nd, S2.sto, S2.hnd, S2.hown, S2.fd, S2.ext, S2.h0, S2.hpre, S2.tbl, S2.tb⟩
  · obtain ⟨e1, n1⟩ := wipeS_some e
    obtain ⟨v, e2, r⟩ := S2.slot i sv e1 n
    exact ⟨v, by rw [wipe_ne n1]; exact e2, r⟩
  · obtain ⟨sv, e1, e2, o⟩ := S2.owns i hi
    have n1 := (hf i hi).2
    exact ⟨sv, by rw [wipeS_ne n1]; exact e1, by rw [wipe_ne n1]; exact e2, o⟩
end
end PI
/-! PI12: list comprehensions. -/
namespace PI
open PySem PySem.Spec L2

section
variable {G : Gd} {c : Cn} {hs hs' : List Addr} {oa oa' : Nat → Addr} {sl sl' : Slots} {w w' : W} {σ σ' : L2.St} {H H' : Hp} {O O' : Addr → Prop} {p : Addr} {u u' : HO}
theorem keep_addSet {own : List Nat} (S : SRel G (c.add p u) hs oa sl w σ H) (h : Plain u) : Keep (Off (c.add p u) hs own oa) H (Off (c.add p u') hs own oa) (upd H p u') := by
  have hp : H p = some u := S.ext p u (S.fd p (.inr rfl)).2 add_he h.2.2.1
  have eo : ∀ a, Off (c.add p u') hs own oa a ↔ Off (c.add p u) hs own oa a := fun a => (off_add a).trans (off_add a).symm
  refine ⟨fun a v n e t => ?_, fun a xs e => ?_, fun a o xs e => ?_, fun a v n e z => n ((eo a).mp z), fun a ps e => ⟨ps, ?_⟩, tb_upd hp h.2.2.1 h.2.2.2⟩
  · rw [upd_ne (fun z => n (by rw [z]; exact .inl (.inr rfl)))]; exact e
  · rw [upd_ne (fun z => by rw [z, hp] at e; exact h.1 xs (Option.some.inj e))]; exact e
  · rw [upd_ne (fun z => by rw [z, hp] at e; exact h.2.1 o _ (Option.some.inj e))]; exact e
  · rw [upd_ne (fun z => by rw [z, hp] at e; exact h.2.2.1 _ (Option.some.inj e))]; exact e
theorem Sub.trans' {w w1 w2 : W} (a : Sub w2 w1) (b : Sub w1 w) : Sub w2 w := fun i h => b i (a i h)
theorem sub_wOut {vs : List Nat} : Sub (wOut w vs) w := fun i hi => (List.mem_filter.mp hi).1
theorem off_sub {own own' : List Nat} (h : ∀ i, i ∈ own' → i ∈ own) : ∀ a, Off c hs own' oa a → Off c hs own oa a := fun a z => by
  rcases z with z | z | ⟨i, hi, z⟩
  · exact .inl z
  · exact .inr (.inl z)
  · exact .inr (.inr ⟨i, h i hi, z⟩)
theorem keep_addNew {own own' : List Nat} (h : ∀ i, i ∈ own' → i ∈ own) (hp : H p = none) : Keep (Off c hs own oa) H (Off (c.add p u) hs own' oa) (upd H p u) :=
  (Keep.less (off_sub h)).trans ((Keep.more hp).trans ((Keep.grow (same_new hp)).trans (.less fun a z => (off_add a).mp z)))
theorem He_none (S : SRel G c hs oa sl w σ H) (hp : H p = none) : c.He p = none ∧ ¬ c.F p := by
  refine ⟨?_, fun z => S.off_none hp (.inl z)⟩
  cases e : c.He p with
  | none => rfl
  | some u =>
    by_cases hm : p ∈ hs
    · exact absurd (.inr (.inl hm)) (S.off_none hp)
    · obtain ⟨u', e'⟩ := S.any hm e
      rw [e'] at hp; cases hp
theorem Ext.none_back (S : SRel G c hs oa sl w σ H) (x : Ext hs H hs' H') (hn : H' p = none) (hp : p ∉ hs') : H p = none := by
  cases e : H p with
  | none => rfl
  | some u =>
    by_cases hm : p ∈ hs
    · exact absurd (x.pre.subset hm) hp
    · obtain ⟨u', e'⟩ := x.any hm e
      rw [e'] at hn; cases hn
end
theorem tE_lc {G : Gd} {f : Ix} {vs : List Nat} {g : Tx} {t : Bx} {e : Ex} {σ : L2.St} {H : Hp} {Q : VK} (h : tE G (xLc f vs g t e) σ H Q) : tLc (tI' G f) (tN G vs g) (tC' G t) (tE G e) vs σ H Q := by
  obtain ⟨c, hs, oa, sl, w, sv, b, w', S, e0, q⟩ := h
  unfold xLc at e0
  split at e0
  · rename_i ps w1 e1
    split at e0
    · rename_i hz
      split at e0
      · rename_i ys w2 e2
        cases e0
        refine ⟨c, hs, oa, sl, w, ps, w1, S, e1, fun J H1 hs1 S1 x1 sb1 wk => ?_⟩
        intro D hD
        obtain ⟨R, r0, rk, rw'⟩ := wk
        obtain ⟨hHe, hF⟩ := He_none S1 hD
        have hDs : D ∉ hs1 := fun z => S1.off_none hD (.inr (.inl z))
        refine ⟨fun i m H2 => m = ps.length - i ∧ i ≤ ps.length ∧ ∃ hs2 w2 acc ys0 ysr, SRel G (c.add D (.lst acc)) hs2 oa (wipeS sl vs) w2 (L2.wipe σ vs) H2 ∧ lcGo g t e (ps.drop i) (wipeS sl vs) w2 = some (ysr, w') ∧ ys = ys0 ++ ysr ∧ ys0.length ≤ i ∧
          Reps G H2 (Off (c.add D (.lst acc)) hs2 w2.own oa) ys0 acc ∧ Ext hs1 H1 hs2 H2 ∧ Sub w2 (wOut w1 vs) ∧ R (Off (c.add D (.lst acc)) hs2 w2.own oa) H2, ?_, ?_⟩
        · refine ⟨ps.length, rfl, Nat.zero_le _, hs1, wOut w1 vs, [], [], ys, S1.wipe.addNew hD, e2, rfl, Nat.le_refl _, reps_nil, .grow (same_new hD), .refl, rk _ _ _ _ r0 (keep_addNew sub_wOut hD)⟩
        · rintro i m H2 ⟨rfl, hi, hs2, w2, acc, ys0, ysr, S2, e3, ey, hl0, rs, x2, sb2, r2⟩
          obtain ⟨g1, g2, g3⟩ := rw' _ _ r2
          have hDn : H D = none := x1.none_back S hD hDs
          have hD2 : D ∉ hs2 := (S2.fd D (.inr rfl)).2
          have hlen := reps_length rs
          by_cases hlt : i < ps.length
          · refine .inr ⟨g1 i hlt, fun H9 => i + 1 ≤ ps.length ∧ ∃ hs2 w2 acc ys0 ysr, SRel G (c.add D (.lst acc)) hs2 oa (wipeS sl vs) w2 (L2.wipe σ vs) H9 ∧ lcGo g t e (ps.drop (i + 1)) (wipeS sl vs) w2 = some (ysr, w') ∧ ys = ys0 ++ ysr ∧ ys0.length ≤ i + 1 ∧
              Reps G H9 (Off (c.add D (.lst acc)) hs2 w2.own oa) ys0 acc ∧ Ext hs1 H1 hs2 H9 ∧ Sub w2 (wOut w1 vs) ∧ R (Off (c.add D (.lst acc)) hs2 w2.own oa) H9, fun H9 z => ⟨ps.length - (i + 1), by omega, rfl, z⟩, fun x H3 y => ?_⟩
            obtain ⟨sm, p, ep, rp⟩ := g3 i x H3 hlt y
            have ed : ps.drop i = p :: ps.drop (i + 1) := by
              obtain ⟨_, e4⟩ := List.getElem?_eq_some_iff.mp ep
              rw [← e4]; exact List.drop_eq_getElem_cons hlt
            rw [ed] at e3
            unfold lcGo at e3
            split at e3
            · rename_i sl1 w3 e4
              refine ⟨c.add D (.lst acc), hs2, oa, wipeS sl vs, w2, .d p, sl1, w3, S2.grow sm, rp, e4, fun σ4 H4 sm4 S4 sb4 n4 l4 => ⟨wipe_same n4 l4, ?_⟩⟩
              have x4 : Ext hs2 H2 hs2 H4 := (Ext.grow sm).trans (.grow sm4)
              split at e3
              · rename_i w4 e5
                refine ⟨c.add D (.lst acc), hs2, oa, sl1, w3, true, w4, S4, e5, fun H5 hs5 S5 x5 sb5 => ?_⟩
                refine iteT ?_
                split at e3
                · rename_i y1 b1 w5 e6
                  split at e3
                  · rename_i ys6 w6 e7
                    cases e3
                    refine ⟨c.add D (.lst acc), hs5, oa, sl1, w4, .d y1, b1, w5, S5, e6, fun v H6 hs6 S6 x6 sb6 r6 => ?_⟩
                    have hD6 : D ∉ hs6 := (S6.fd D (.inr rfl)).2
                    have x26 : Ext hs2 H2 hs6 H6 := (x4.trans x5).trans x6
                    have sb26 : Sub w5 w2 := (sb4.trans sb5).trans sb6
                    have S7 := S2.back x26 sb26 S6 fun _ _ => rfl
                    have k6 : Keep (Off (c.add D (.lst acc)) hs2 w2.own oa) H2 (Off (c.add D (.lst acc)) hs6 w5.own oa) H6 := x26.keep sb26
                    have k7 := keep_addSet (u' := .lst (acc ++ [v])) (own := w5.own) S7 plain_lst
                    have rv : Rep G H6 (Off (c.add D (.lst acc)) hs6 w5.own oa) y1 v := r6.rep S5 x6 sb6
                    refine ⟨acc, S6.ext D _ hD6 add_he (fun _ z => nomatch z), by omega, hlt, hs6, w5, acc ++ [v], ys0 ++ [y1], ys6, S7.addSet plain_lst, e7, by rw [ey, List.append_assoc]; rfl, by rw [List.length_append, List.length_singleton]; omega, ?_, ?_, sb26.trans' sb2, rk _ _ _ _ r2 (k6.trans k7)⟩
                    · exact reps_append ((rs.keep k6 _ _).keep k7 _ _) (reps_cons (Rep.keep k7 _ _ rv) reps_nil)
                    · have x16 := x2.trans x26
                      have hne : ∀ a u, H1 a = some u → a ≠ D := fun a u e z => by rw [z, hD] at e; cases e
                      exact ⟨fun a u n e t => by rw [upd_ne (hne a u e)]; exact x16.same a u n e t, x16.pre, x16.new, fun a xs e => by rw [upd_ne (hne a _ e)]; exact x16.tup a xs e, fun a o xs e => by rw [upd_ne (hne a _ e)]; exact x16.frz a o xs e, fun a ps e => by
                        obtain ⟨qs, q⟩ := x16.tbl a ps e
                        exact ⟨qs, by rw [upd_ne (fun z => by rw [z, S6.ext D _ hD6 add_he (fun _ z => nomatch z)] at q; cases q)]; exact q⟩, fun t => tb_upd (S6.ext D _ hD6 add_he (fun _ z => nomatch z)) plain_lst.2.2.1 plain_lst.2.2.2 (x16.tb t)⟩
                  · cases e3
                · cases e3
              · rename_i w4 e5
                refine ⟨c.add D (.lst acc), hs2, oa, sl1, w3, false, w4, S4, e5, fun H5 hs5 S5 x5 sb5 => ?_⟩
                refine iteF ?_
                have x25 : Ext hs2 H2 hs5 H5 := x4.trans x5
                have sb25 : Sub w4 w2 := sb4.trans sb5
                have k5 : Keep (Off (c.add D (.lst acc)) hs2 w2.own oa) H2 (Off (c.add D (.lst acc)) hs5 w4.own oa) H5 := x25.keep sb25
                exact ⟨hlt, hs5, w4, acc, ys0, ysr, S2.back x25 sb25 S5 fun _ _ => rfl, e3, ey, by omega, rs.keep k5 _ _, x2.trans x25, sb25.trans' sb2, rk _ _ _ _ r2 k5⟩
              · cases e3
            · cases e3
          · have ei : i = ps.length := by omega
            subst ei
            rw [List.drop_length] at e3
            cases e3
            refine .inl ⟨g2, ?_⟩
            have sbw : Sub w' w1 := sb2.trans' sub_wOut
            have S3 := S2.drop hHe hF
            have S4 := S1.back x2 sbw S3 fun _ _ => rfl
            refine q (.ref D) H2 hs2 S4 (x1.trans x2) (sbw.trans' sb1) ?_
            unfold ResE
            rw [if_pos rfl]
            refine ⟨D, rfl, hDn, hD2, acc, S2.ext D _ hD2 add_he (fun _ z => nomatch z), ?_⟩
            rw [ey, List.append_nil]
            exact rs.keep (.less fun a z => (off_add a).mpr z) _ _
      · cases e0
    · cases e0
  · cases e0
theorem _root_.L2.PTs.imp {X : Cx} {e : List Expr} {t t' : TT} (h : PTs X e t) (k : ∀ σ H Q, t' σ H Q → t σ H Q) : PTs X e t' := ⟨fun pins s σ H Q I q => h.run pins s σ H Q I (k σ H Q q)⟩
def bYes : Bx := fun _ w => some (true, w)
theorem pTs_nil {X : Cx} : PTs X [] (tC' (gd X) bYes) := pts_nil.imp fun σ H Q h => by
  obtain ⟨c, hs, oa, sl, w, b, w', S, e, q⟩ := h
  cases e
  exact q H hs S .refl .refl
theorem pTs_one {X : Cx} {c : Expr} {t : Bx} (h : PT X c (tC' (gd X) t)) : PTs X [c] (tC' (gd X) t) := pts_one h
/-- the block's contexts -/
abbrev BlkX (X : Cx) (scope : Scope) (Y : Cx) : Prop := ∃ (s : Shared) (H : Hp) (C : Addr) (cl : List (Str × Addr)) (fp : List Addr), Y = X.blk s H scope (compEnvC scope cl C X.env) fp
theorem pE_lc {X : Cx} {elt tg iter : Expr} {ifs : List Expr} {scope : Scope} {own : List (Str × Nat)} {pos : Pos} {f : Ix} {g : Tx} {t : Bx} {e : Ex} (hc : X.calm = true) (hN : X.N.Nodup) (hi : L2.PI X tg iter (tI' (gd X) f)) (ok : BlkOk X.N X.env.scope scope own)
    (hg : ∀ Y, BlkX X scope Y → PG Y tg (tN (gd X) (own.map (·.2)) g)) (ht : ∀ Y, BlkX X scope Y → PTs Y ifs (tC' (gd X) t)) (he : ∀ Y, BlkX X scope Y → PE Y elt (tE (gd X) e)) (hs : ∀ x, foldedSetIterable iter X.env x = pure x) :
    PE X (.ListComp elt [⟨tg, iter, ifs, 0⟩] scope pos) (tE (gd X) (xLc f (own.map (·.2)) g t e)) :=
  (pe_lc hc hN hi ok (fun s H C cl fp => hg _ ⟨s, H, C, cl, fp, rfl⟩) (fun s H C cl fp => ht _ ⟨s, H, C, cl, fp, rfl⟩) (fun s H C cl fp => he _ ⟨s, H, C, cl, fp, rfl⟩) hs).imp fun σ H Q h => tE_lc h
end PI
/-! PI13: statements: assignments, stores, appends. -/
namespace PI
open PySem PySem.Spec L2

/-! ### names -/
theorem pS_set {X : Cx} {i : Nat} {x : Str} {e : Expr} {f : Ex} {pos pos' : Pos} (hN : X.N.Nodup) (hi : X.N[i]? = some x) (hx : Loc X.env.scope x) (he : PE X e (tE (gd X) f)) (hs : swapsWith e (some (.Name x pos')) pos.line X.env = pure false)
    (hf : X.fn x = true ∨ X.env.scope.names.lookup x = some .local) : PS X (.Assign [.Name x pos'] e pos) (tS (gd X) (sSet i f)) := (ps_set hN hi hx he hs hf).imp fun D σ H h => tS_set h
theorem pS_setLc {X : Cx} {i : Nat} {y : Str} {py : Pos} {elt tg iter : Expr} {ifs : List Expr} {scope : Scope} {own : List (Str × Nat)} {pos spos : Pos} {f : Ix} {g : Tx} {t : Bx} {e : Ex} (hc : X.calm = true) (hN : X.N.Nodup) (hy : X.N[i]? = some y) (hyl : X.env.scope.names.lookup y = some .local)
    (hsw : swapsWith (.ListComp elt [⟨tg, iter, ifs, 0⟩] scope pos) (some (.Name y py)) spos.line X.env = pure true) (hi : L2.PI X tg iter (tI' (gd X) f)) (ok : BlkOk X.N X.env.scope scope own)
    (hg : ∀ Y, BlkX X scope Y → PG Y tg (tN (gd X) (own.map (·.2)) g)) (ht : ∀ Y, BlkX X scope Y → PTs Y ifs (tC' (gd X) t)) (he : ∀ Y, BlkX X scope Y → PE Y elt (tE (gd X) e)) (hs : ∀ x, foldedSetIterable iter X.env x = pure x) :
    PS X (.Assign [.Name y py] (.ListComp elt [⟨tg, iter, ifs, 0⟩] scope pos) spos) (tS (gd X) (sSet i (xLc f (own.map (·.2)) g t e))) :=
  (ps_setLc hc hN hy hyl hsw hi ok (fun s H C cl fp => hg _ ⟨s, H, C, cl, fp, rfl⟩) (fun s H C cl fp => ht _ ⟨s, H, C, cl, fp, rfl⟩) (fun s H C cl fp => he _ ⟨s, H, C, cl, fp, rfl⟩) hs).imp fun D σ H h => tE_lc (tS_set h)
theorem pS_asg {X : Cx} {tg e : Expr} {f : Ex} {g : Tx} {pos : Pos} (he : PE X e (tE (gd X) f)) (hg : PG X tg (tG (gd X) g)) (hs : swapsWithSole [tg] e pos.line X.env = pure false) (hw : swappedStores [tg] e X.env = pure none)
    (h1 : (assignEach [tg] X.env).map (·.2) = [assign tg X.env]) : PS X (.Assign [tg] e pos) (tS (gd X) (sAsg f g)) := (ps_asg he hg hs hw h1).imp fun D σ H h => tS_asg h
/-- what is never run -/
def sNever : Sx := fun _ _ => none
theorem pS_never {X : Cx} {st : Stmt} : PS X st (tS (gd X) sNever) := ps_never.imp fun D σ H h => by
  obtain ⟨c, hs, oa, sl, w, o, sl', w', S, e, q⟩ := h
  cases e
def xNever : Ex := fun _ _ => none
theorem pE_never {X : Cx} {e : Expr} : PE X e (tE (gd X) xNever) := ⟨fun pins s σ H Q I h => by
  obtain ⟨c, hs, oa, sl, w, sv, b, w', S, e, q⟩ := h
  cases e⟩
/-- an expression for what it does -/
def sExp (f : Ex) : Sx := fun sl w => match f sl w with
  | some (_, w1) => some (.nx, sl, w1)
  | none => none
theorem pS_exp {X : Cx} {e : Expr} {f : Ex} {pos : Pos} (he : PE X e (tE (gd X) f)) (hs : swapsWith e none pos.line X.env = pure false) : PS X (.Expr e pos) (tS (gd X) (sExp f)) := (ps_expr he hs).imp fun D σ H h => by
  obtain ⟨c, hs, oa, sl, w, o, sl', w', S, e, q⟩ := h
  unfold sExp at e
  split at e
  · rename_i r w1 e1
    cases e
    exact ⟨c, hs, oa, sl, w, r.1, r.2, w', S, e1, fun v H1 hs1 S1 x1 sb1 r1 => q σ H1 hs1 oa S1 (x1.keep sb1)⟩
  · cases e
theorem pS_retV {X : Cx} {i : Nat} {e : Expr} {pos : Pos} (h : PE X e (tVar i)) : PS X (.Return (some e) pos) (tS (gd X) (sRetV i)) := (ps_ret h).imp fun D σ H h => tS_retV h
theorem pS_retN {X : Cx} {pos : Pos} : PS X (.Return none pos) (tS (gd X) (sOut (.rt (.d .none) false))) := ps_retN.imp fun D σ H h => by
  obtain ⟨c, hs, oa, sl, w, o, sl', w', S, e, q⟩ := h
  cases e
  refine q σ H hs oa S .refl .non ?_
  unfold RetR
  rw [if_neg Bool.false_ne_true]
  show Rep _ _ _ _ _
  rw [Rep]

/-! ### writing what a name owns, a handle's list -/
section
variable {G : Gd} {c : Cn} {hs hs' : List Addr} {oa oa' : Nat → Addr} {sl sl' : Slots} {w w' : W} {σ σ' : L2.St} {H H' : Hp} {O O' : Addr → Prop} {a : Addr} {u u' : HO}
theorem keep_write (ha : O a) (hu : H a = some u) (h : Plain u) : Keep O H O (upd H a u') := by
  refine ⟨fun b v n e t => ?_, fun b xs e => ?_, fun b o xs e => ?_, fun b v n e => n, fun b ps e => ⟨ps, ?_⟩, tb_upd hu h.2.2.1 h.2.2.2⟩
  · rw [upd_ne (fun z => n (by rw [z]; exact ha))]; exact e
  · rw [upd_ne (fun z => by rw [z, hu] at e; exact h.1 xs (Option.some.inj e))]; exact e
  · rw [upd_ne (fun z => by rw [z, hu] at e; exact h.2.1 o _ (Option.some.inj e))]; exact e
  · rw [upd_ne (fun z => by rw [z, hu] at e; exact h.2.2.1 _ (Option.some.inj e))]; exact e
theorem SRel.write {k : Nat} {sv' : SV} (S : SRel G c hs oa sl w σ H) (hk : k ∈ w.own) (hu : H (oa k) = some u) (hp : Plain u) (o' : OwnAt G (upd H (oa k) u') (Off c hs w.own oa) sv' (oa k)) :
    SRel G c hs oa (sl.set k (some sv')) w σ (upd H (oa k) u') ∧ Keep (Off c hs w.own oa) H (Off c hs w.own oa) (upd H (oa k) u') := by
  have hO : Off c hs w.own oa (oa k) := .inr (.inr ⟨k, hk, rfl⟩)
  have kp : Keep (Off c hs w.own oa) H (Off c hs w.own oa) (upd H (oa k) u') := keep_write hO hu hp
  have hns : ∀ b, b ∈ hs → b ≠ oa k := fun b hb z => S.hown k hk (by rw [← z]; exact hb)
  refine ⟨⟨by rw [List.length_set]; exact S.len, fun i sv e n => ?_, fun i hi => ?_, S.inj, S.new, S.nd, ?_, S.hnd, S.hown, S.fd, fun b v n e t => ?_, S.h0, S.hpre, fun b ps e => ?_, kp.tb S.tb⟩, kp⟩
  · have hik : k ≠ i := fun z => n (by rw [← z]; exact hk)
    rw [List.getElem?_set_ne hik] at e
    obtain ⟨v, e1, r⟩ := S.slot i sv e n
    exact ⟨v, e1, r.keep kp (List.prefix_refl _)⟩
  · by_cases hik : i = k
    · subst hik
      obtain ⟨sv, e1, e2, _⟩ := S.owns i hi
      have hl : i < sl.length := (List.getElem?_eq_some_iff.mp e1).1
      exact ⟨sv', by rw [List.getElem?_set_self hl], e2, o'⟩
    · obtain ⟨sv, e1, e2, o⟩ := S.owns i hi
      have hne : oa i ≠ oa k := fun z => hik (S.inj i hi k hk z)
      exact ⟨sv, by rw [List.getElem?_set_ne (Ne.symm hik)]; exact e1, e2, o.keep kp fun u e _ => by rw [upd_ne hne]; exact e⟩
  · exact ⟨S.sto.1, fun n ns e => by obtain ⟨b, e1, e2⟩ := S.sto.2 n ns e; exact ⟨b, e1, by rw [upd_ne (hns b (List.mem_of_getElem? e1))]; exact e2⟩⟩
  · have : b ≠ oa k := fun z => by rw [z, S.new k hk] at e; cases e
    rw [upd_ne this]; exact S.ext b v n e t
  · obtain ⟨qs, q⟩ := S.tbl b ps e
    exact kp.tbl b qs q
theorem nodup_at : ∀ {l : List Addr} {i j : Nat} {a : Addr}, l.Nodup → l[i]? = some a → l[j]? = some a → i = j
  | [], _, _, _, _, e, _ => by simp at e
  | b :: l, 0, 0, _, _, _, _ => rfl
  | b :: l, 0, j + 1, a, h, e1, e2 => by
    simp at e1 e2
    subst e1
    exact absurd (List.mem_of_getElem? e2) (List.nodup_cons.mp h).1
  | b :: l, i + 1, 0, a, h, e1, e2 => by
    simp at e1 e2
    subst e2
    exact absurd (List.mem_of_getElem? e1) (List.nodup_cons.mp h).1
  | b :: l, i + 1, j + 1, a, h, e1, e2 => by
    simp at e1 e2
    rw [nodup_at (List.nodup_cons.mp h).2 e1 e2]
theorem SRel.writeH {n : Nat} {ns ns' : List Int} (S : SRel G c hs oa sl w σ H) (ha : hs[n]? = some a) (hn : w.sto[n]? = some ns) :
    SRel G c hs oa sl { w with sto := w.sto.set n ns' } σ (upd H a (.lst (ns'.map V.int))) ∧ Keep (Off c hs w.own oa) H (Off c hs w.own oa) (upd H a (.lst (ns'.map V.int))) := by
  have hm : a ∈ hs := List.mem_of_getElem? ha
  have hO : Off c hs w.own oa a := .inr (.inl hm)
  obtain ⟨b, eb, hu⟩ := S.sto.2 n ns hn
  rw [ha] at eb; cases eb
  have kp : Keep (Off c hs w.own oa) H (Off c hs w.own oa) (upd H a (.lst (ns'.map V.int))) := keep_write hO hu plain_lst
  have hne : ∀ i, i ∈ w.own → oa i ≠ a := fun i hi z => S.hown i hi (by rw [z]; exact hm)
  have hl : n < hs.length := (List.getElem?_eq_some_iff.mp ha).1
  refine ⟨⟨S.len, fun i sv e n => ?_, fun i hi => ?_, S.inj, S.new, S.nd, ?_, S.hnd, S.hown, S.fd, fun b v n e t => ?_, S.h0, S.hpre, fun b ps e => ?_, kp.tb S.tb⟩, kp⟩
  · obtain ⟨v, e1, r⟩ := S.slot i sv e n
    exact ⟨v, e1, r.keep kp (List.prefix_refl _)⟩
  · obtain ⟨sv, e1, e2, o⟩ := S.owns i hi
    exact ⟨sv, e1, e2, o.keep kp fun u e _ => by rw [upd_ne (hne i hi)]; exact e⟩
  · refine ⟨by show hs.length = (w.sto.set n ns').length; rw [List.length_set]; exact S.sto.1, fun m ms e => ?_⟩
    have e : (w.sto.set n ns')[m]? = some ms := e
    by_cases hnm : n = m
    · subst hnm
      rw [List.getElem?_set_self (by rw [← S.sto.1]; exact hl)] at e
      cases e
      exact ⟨a, ha, upd_same⟩
    · rw [List.getElem?_set_ne hnm] at e
      obtain ⟨b, e1, e2⟩ := S.sto.2 m ms e
      refine ⟨b, e1, ?_⟩
      rw [upd_ne ?_]
      · exact e2
      · intro z
        subst z
        exact hnm (nodup_at S.hnd ha e1)
  · have : b ≠ a := fun z => n (by rw [z]; exact hm)
    rw [upd_ne this]; exact S.ext b v n e t
  · obtain ⟨qs, q⟩ := S.tbl b ps e
    exact kp.tbl b qs q
end
end PI
/-! PI14: dicts. -/
namespace PI
open PySem PySem.Spec L2

/-! ### data, compared -/
mutual
def eqP : P → P → Bool
  | .none, .none => true
  | .bool a, .bool b => a == b
  | .int a, .int b => decide (a = b)
  | .str a, .str b => decide (a = b)
  | .list a, .list b => eqPs a b
  | .tuple a, .tuple b => eqPs a b
  | .dict a, .dict b => eqPp a b
  | _, _ => false
def eqPs : List P → List P → Bool
  | [], [] => true
  | a :: r, b :: q => eqP a b && eqPs r q
  | _, _ => false
def eqPp : List (P × P) → List (P × P) → Bool
  | [], [] => true
  | (a, b) :: r, (c, d) :: q => eqP a c && (eqP b d && eqPp r q)
  | _, _ => false
end
mutual
theorem eqP_iff : ∀ (a b : P), eqP a b = true ↔ a = b
  | .none, b => by cases b <;> simp [eqP]
  | .bool a, b => by cases b <;> simp [eqP]
  | .int a, b => by cases b <;> simp [eqP]
  | .str a, b => by cases b <;> simp [eqP]
  | .list a, b => by cases b <;> simp [eqP, eqPs_iff]
  | .tuple a, b => by cases b <;> simp [eqP, eqPs_iff]
  | .dict a, b => by cases b <;> simp [eqP, eqPp_iff]
theorem eqPs_iff : ∀ (a b : List P), eqPs a b = true ↔ a = b
  | [], b => by cases b <;> simp [eqPs]
  | a :: r, b => by cases b <;> simp [eqPs, eqP_iff, eqPs_iff]
theorem eqPp_iff : ∀ (a b : List (P × P)), eqPp a b = true ↔ a = b
  | [], b => by cases b <;> simp [eqPp]
  | (a, b) :: r, c => by
    cases c with
    | nil => simp [eqPp]
    | cons q t => obtain ⟨x, y⟩ := q; simp [eqPp, eqP_iff, eqPp_iff, and_assoc]
end
instance decP : DecidableEq P := fun a b => decidable_of_iff (eqP a b = true) (eqP_iff a b)

/-! ### entries -/
def getP (kvs : List (P × P)) (k : P) : Option P := (kvs.find? fun q => decide (q.1 = k)).map (·.2)
def putP (kvs : List (P × P)) (k v : P) : List (P × P) := if (kvs.any fun q => decide (q.1 = k)) = true then kvs.map (fun q => if q.1 = k then (q.1, v) else q) else kvs ++ [(k, v)]
def OptRep (G : Gd) (H : Hp) (O : Addr → Prop) : Option P → Option V → Prop
  | none, none => True
  | some p, some v => Rep G H O p v
  | _, _ => False
theorem keyP_inj : ∀ {a b : Key}, keyP a = keyP b → a = b
  | .inl _, .inl _, e => by cases e; rfl
  | .inr _, .inr _, e => by cases e; rfl
  | .inl _, .inr _, e => by cases e
  | .inr _, .inl _, e => by cases e
mutual
theorem nkP_inj : ∀ {a b : NestedKey}, nkP a = nkP b → a = b
  | .none, .none, _ => rfl
  | .none, .num _, e => by simp [nkP] at e
  | .none, .text _, e => by simp [nkP] at e
  | .none, .tup _, e => by simp [nkP] at e
  | .num _, .none, e => by simp [nkP] at e
  | .num _, .num _, e => by simp [nkP] at e; rw [e]
  | .num _, .text _, e => by simp [nkP] at e
  | .num _, .tup _, e => by simp [nkP] at e
  | .text _, .none, e => by simp [nkP] at e
  | .text _, .num _, e => by simp [nkP] at e
  | .text _, .text _, e => by simp [nkP] at e; rw [e]
  | .text _, .tup _, e => by simp [nkP] at e
  | .tup _, .none, e => by simp [nkP] at e
  | .tup _, .num _, e => by simp [nkP] at e
  | .tup _, .text _, e => by simp [nkP] at e
  | .tup a, .tup b, e => by
    simp only [nkP, PyData.tuple.injEq] at e
    rw [nkPs_inj e]
theorem nkPs_inj : ∀ {a b : List NestedKey}, nkPs a = nkPs b → a = b
  | [], [], _ => rfl
  | [], _ :: _, e => by simp [nkPs] at e
  | _ :: _, [], e => by simp [nkPs] at e
  | a :: as, b :: bs, e => by
    simp only [nkPs, List.cons.injEq] at e
    rw [nkP_inj e.1, nkPs_inj e.2]
end
section
variable {G : Gd} {H : Hp} {O : Addr → Prop} {κ : Type} [DecidableEq κ]
theorem get_rep (enc : κ → P) (inj : ∀ {a b}, enc a = enc b → a = b) : ∀ {kvs : List (P × P)} {ls : List (κ × V)}, kvs.map (·.1) = ls.map (fun q => enc q.1) → RepVs G H O kvs (ls.map (·.2)) → ∀ k, OptRep G H O (getP kvs (enc k)) (valV ls k)
  | [], [], _, _, k => by show OptRep G H O none none; trivial
  | [], _ :: _, e, _, _ => by simp at e
  | _ :: _, [], e, _, _ => by simp at e
  | (p, d) :: kvs, (l, v) :: ls, e, r, k => by
    simp only [List.map_cons, List.cons.injEq] at e
    obtain ⟨e1, e2⟩ := e
    rw [List.map_cons, RepVs] at r
    obtain ⟨x, ys, e3, r1, r2⟩ := r
    simp only [List.cons.injEq] at e3
    obtain ⟨rfl, rfl⟩ := e3
    subst e1
    by_cases h : l = k
    · subst h
      have a : getP ((enc l, d) :: kvs) (enc l) = some d := by simp [getP, List.find?_cons]
      rw [a, valV_pos rfl]
      exact r1
    · have h' : ¬ enc l = enc k := fun z => h (inj z)
      have a : getP ((enc l, d) :: kvs) (enc k) = getP kvs (enc k) := by simp [getP, List.find?_cons, h']
      rw [a, valV_neg h]
      exact get_rep enc inj e2 r2 k
theorem repVs_append : ∀ {a b : List (P × P)} {xs ys : List V}, RepVs G H O a xs → RepVs G H O b ys → RepVs G H O (a ++ b) (xs ++ ys)
  | [], _, _, _, h, h2 => by rw [RepVs] at h; subst h; exact h2
  | (p, d) :: a, b, _, _, h, h2 => by
    rw [RepVs] at h
    obtain ⟨x, r, rfl, h1, h3⟩ := h
    rw [List.cons_append, RepVs]
    exact ⟨x, _, rfl, h1, repVs_append h3 h2⟩
theorem repKs_append : ∀ {a b : List (P × P)} {xs ys : List V}, RepKs G H O a xs → RepKs G H O b ys → RepKs G H O (a ++ b) (xs ++ ys)
  | [], _, _, _, h, h2 => by rw [RepKs] at h; subst h; exact h2
  | (p, d) :: a, b, _, _, h, h2 => by
    rw [RepKs] at h
    obtain ⟨x, r, rfl, h1, h3⟩ := h
    rw [List.cons_append, RepKs]
    exact ⟨x, _, rfl, h1, repKs_append h3 h2⟩
theorem any_enc (enc : κ → P) (inj : ∀ {a b}, enc a = enc b → a = b) (k : κ) : ∀ {kvs : List (P × P)} {ls : List (κ × V)}, kvs.map (·.1) = ls.map (fun q => enc q.1) → (kvs.any fun q => decide (q.1 = enc k)) = ls.any fun q => decide (q.1 = k)
  | [], [], _ => rfl
  | [], _ :: _, e => by simp at e
  | _ :: _, [], e => by simp at e
  | (p, d) :: kvs, (l, v) :: ls, e => by
    simp only [List.map_cons, List.cons.injEq] at e
    obtain ⟨e1, e2⟩ := e
    subst e1
    rw [List.any_cons, List.any_cons, any_enc enc inj k e2]
    by_cases h : l = k
    · subst h; simp
    · have h' : ¬ enc l = enc k := fun z => h (inj z)
      simp [h, h']
theorem repl_rep (enc : κ → P) (inj : ∀ {a b}, enc a = enc b → a = b) {k : κ} {q : P} {x : V} (rq : Rep G H O q x) : ∀ {kvs : List (P × P)} {ls : List (κ × V)}, kvs.map (·.1) = ls.map (fun q => enc q.1) → RepVs G H O kvs (ls.map (·.2)) →
    ((kvs.map fun y => if y.1 = enc k then (y.1, q) else y).map (·.1) = (ls.map fun y => if y.1 = k then (y.1, x) else y).map (fun q => enc q.1)) ∧
    (RepVs G H O (kvs.map fun y => if y.1 = enc k then (y.1, q) else y) ((ls.map fun y => if y.1 = k then (y.1, x) else y).map (·.2)))
  | [], [], _, _ => ⟨rfl, by rw [List.map_nil, RepVs]; rfl⟩
  | [], _ :: _, e, _ => by simp at e
  | _ :: _, [], e, _ => by simp at e
  | (p, d) :: kvs, (l, v) :: ls, e, r => by
    simp only [List.map_cons, List.cons.injEq] at e
    obtain ⟨e1, e2⟩ := e
    rw [List.map_cons, RepVs] at r
    obtain ⟨y, ys, e3, r1, r2⟩ := r
    simp only [List.cons.injEq] at e3
    obtain ⟨rfl, rfl⟩ := e3
    subst e1
    obtain ⟨i1, i2⟩ := repl_rep (k := k) enc inj rq e2 r2
    by_cases h : l = k
    · subst h
      simp only [List.map_cons, if_true]
      refine ⟨by rw [i1], ?_⟩
      rw [RepVs]
      exact ⟨x, _, rfl, rq, i2⟩
    · have h' : ¬ enc l = enc k := fun z => h (inj z)
      simp only [List.map_cons, if_neg h, if_neg h']
      refine ⟨by rw [i1], ?_⟩
      rw [RepVs]
      exact ⟨v, _, rfl, r1, i2⟩
theorem put_rep (enc : κ → P) (inj : ∀ {a b}, enc a = enc b → a = b) {k : κ} {q : P} {x : V} (rq : Rep G H O q x) {kvs : List (P × P)} {ls : List (κ × V)} (e : kvs.map (·.1) = ls.map (fun q => enc q.1)) (r : RepVs G H O kvs (ls.map (·.2))) :
    (putP kvs (enc k) q).map (·.1) = (putK ls k x).map (fun q => enc q.1) ∧ RepVs G H O (putP kvs (enc k) q) ((putK ls k x).map (·.2)) := by
  unfold putP putK
  rw [any_enc enc inj k e]
  split
  · exact repl_rep enc inj rq e r
  · refine ⟨by rw [List.map_append, List.map_append, e]; rfl, ?_⟩
    rw [List.map_append]
    refine repVs_append r ?_
    rw [RepVs]
    exact ⟨x, _, rfl, rq, by rw [RepVs]; rfl⟩
theorem rep_key {k : Key} : Rep G H O (keyP k) (kV k) := by cases k <;> (show Rep _ _ _ _ _; unfold keyP; rw [Rep]; rfl)
theorem repKs_key : ∀ {kvs : List (P × P)} {ls : List (Key × V)}, kvs.map (·.1) = ls.map (fun q => keyP q.1) → RepKs G H O kvs (ls.map (fun q => kV q.1))
  | [], [], _ => by rw [RepKs]; rfl
  | [], _ :: _, e => by simp at e
  | _ :: _, [], e => by simp at e
  | (p, d) :: kvs, (l, v) :: ls, e => by
    simp only [List.map_cons, List.cons.injEq] at e
    rw [List.map_cons, RepKs, e.1]
    exact ⟨_, _, rfl, rep_key, repKs_key e.2⟩
theorem putP_length (kvs : List (P × P)) (k v : P) : (putP kvs k v).length ≤ kvs.length + 1 := by
  unfold putP
  split
  · rw [List.length_map]; exact Nat.le_succ _
  · rw [List.length_append]; exact Nat.le_refl _
end

/-! ### tuples as keys -/
/-- without the addresses -/
def flatN (xs : List (NestedKey × Addr × V)) : List (NestedKey × V) := xs.map fun q => (q.1, q.2.2)
def putN (xs : List (NestedKey × Addr × V)) (k : NestedKey) (b : Addr) (v : V) : List (NestedKey × Addr × V) :=
  if (xs.any fun q => decide (q.1 = k)) = true then xs.map (fun q => if q.1 = k then (q.1, q.2.1, v) else q) else xs ++ [(k, b, v)]
theorem flatN_put {xs : List (NestedKey × Addr × V)} {k : NestedKey} {b : Addr} {v : V} : flatN (putN xs k b v) = putK (flatN xs) k v := by
  unfold putN putK flatN
  rw [List.any_map]
  show _ = if (xs.any fun q => decide (q.1 = k)) = true then _ else _
  split
  · rw [List.map_map, List.map_map]
    apply List.map_congr_left
    intro q _
    show (_, _) = if q.1 = k then _ else _
    by_cases h : q.1 = k <;> simp [h]
  · rw [List.map_append]; rfl
abbrev UN (xs : List (NestedKey × Addr × V)) (us : List (NestedKey × Addr × Value)) : Prop := Paired (fun p q => p.1 = q.1 ∧ p.2.1 = q.2.1 ∧ RelV p.2.2 q.2.2) xs us
theorem UN.at {xs : List (NestedKey × Addr × V)} {us : List (NestedKey × Addr × Value)} (h : UN xs us) (k : NestedKey) : RelO (valV (flatN xs) k) ((atKey us k).map (·.2)) := by
  induction h with
  | nil => exact True.intro
  | @cons p q ps qs h t ih =>
    obtain ⟨h1, _, h2⟩ := h
    by_cases e : p.1 = k
    · have e' : q.1 = k := h1.symm.trans e
      have b : atKey (q :: qs) k = some q.2 := by simp [atKey, List.find?_cons, e']
      have a : valV (flatN (p :: ps)) k = some p.2.2 := valV_pos (p := (p.1, p.2.2)) (r := flatN ps) e
      rw [a, b]; exact h2
    · have e' : ¬ q.1 = k := fun z => e (h1.trans z)
      have b : atKey (q :: qs) k = atKey qs k := by simp [atKey, List.find?_cons, e']
      have a : valV (flatN (p :: ps)) k = valV (flatN ps) k := valV_neg (p := (p.1, p.2.2)) (r := flatN ps) e
      rw [a, b]; exact ih
theorem UN.any {xs : List (NestedKey × Addr × V)} {us : List (NestedKey × Addr × Value)} (h : UN xs us) (k : NestedKey) : (xs.any fun q => decide (q.1 = k)) = (atKey us k).isSome := by
  induction h with
  | nil => rfl
  | @cons p q ps qs h t ih =>
    obtain ⟨h1, _, h2⟩ := h
    rw [List.any_cons, ih]
    by_cases e : p.1 = k
    · have e' : q.1 = k := h1.symm.trans e
      simp [atKey, List.find?_cons, e, e']
    · have e' : ¬ q.1 = k := fun z => e (h1.trans z)
      simp [atKey, List.find?_cons, e, e']
theorem UN.put {xs : List (NestedKey × Addr × V)} {us : List (NestedKey × Addr × Value)} (h : UN xs us) (k : NestedKey) (b : Addr) {v : V} {r : Value} (rv : RelV v r) : UN (putN xs k b v) (storedH us k b r) := by
  unfold putN storedH
  rw [h.any k]
  by_cases q : (atKey us k).isSome = true
  · rw [if_pos q, if_pos q]
    clear q
    induction h with
    | nil => exact .nil
    | @cons p q ps qs h t ih =>
      rw [List.map_cons, List.map_cons]
      refine .cons ?_ ih
      obtain ⟨h1, h2, h3⟩ := h
      unfold putAt
      by_cases e : p.1 = k
      · rw [if_pos e, if_pos (h1.symm.trans e)]; exact ⟨h1, h2, rv⟩
      · rw [if_neg e, if_neg (fun z => e (h1.trans z))]; exact ⟨h1, h2, h3⟩
  · rw [if_neg q, if_neg q]; exact Paired.snoc h ⟨rfl, rfl, rv⟩
section
variable {X : Cx} {pins : List (Addr × Obj)} {σ : L2.St} {H : Hp} {s : Shared} {O : Addr → Prop}
mutual
theorem nest_of (I : Inv X pins σ H s) : ∀ (k : NestedKey) (v : V) (u : Value), Rep (gd X) H O (nkP k) v → RelV v u → NestedIs s.heap k u
  | .none, v, u, h, r => by
    rw [nkP, Rep] at h; subst h
    cases (show u = Value.none from r)
    exact .none
  | .num i, v, u, h, r => by
    rw [nkP, Rep] at h; subst h
    obtain ⟨t, rfl⟩ := r
    exact .int i t
  | .text x, v, u, h, r => by
    rw [nkP, Rep] at h; subst h
    obtain ⟨t, rfl⟩ := r
    exact .text x t
  | .tup ks, v, u, h, r => by
    rw [nkP, Rep] at h
    obtain ⟨a, xs, rfl, ta, ra⟩ := h
    cases (show u = Value.ref a from r)
    obtain ⟨its, rv, p, _⟩ := I.tuple ta.sq
    obtain ⟨o, ho, hc, n, hd⟩ := p
    exact .tup ho hc hd (by simpa using nests_of I ks xs its ra rv)
theorem nests_of (I : Inv X pins σ H s) : ∀ (ks : List NestedKey) (vs : List V) (us : List Value), Reps (gd X) H O (nkPs ks) vs → Vals vs us → NestedAll s.heap ks us
  | [], vs, us, h, r => by
    rw [nkPs, Reps] at h; subst h
    cases r
    exact .nil
  | k :: ks, vs, us, h, r => by
    rw [nkPs, Reps] at h
    obtain ⟨x, ys, rfl, h1, h2⟩ := h
    cases r with
    | cons r1 r2 => exact .cons (nest_of I k _ _ h1 r1) (nests_of I ks _ _ h2 r2)
end
end
end PI
/-! PI15: in a dict, d[k], d.get, in a set, in lists and tuples. -/
namespace PI
open PySem PySem.Spec L2

/-- what a key is -/
def keyK : P → Option Key
  | .int i => some (.inl i)
  | .str x => some (.inr x)
  | _ => none
mutual
def nkOf : P → Option NestedKey
  | .none => some .none
  | .int i => some (.num i)
  | .str x => some (.text x)
  | .tuple ps => (nksOf ps).map .tup
  | _ => none
def nksOf : List P → Option (List NestedKey)
  | [] => some []
  | p :: ps => match nkOf p, nksOf ps with
    | some k, some ks => some (k :: ks)
    | _, _ => none
end
theorem keyK_eq : ∀ {p : P} {k : Key}, keyK p = some k → p = keyP k
  | .int i, k, e => by cases e; rfl
  | .str x, k, e => by cases e; rfl
  | .none, k, e => by cases e
  | .bool _, k, e => by cases e
  | .list _, k, e => by cases e
  | .tuple _, k, e => by cases e
  | .dict _, k, e => by cases e
mutual
theorem nkOf_eq : ∀ {p : P} {k : NestedKey}, nkOf p = some k → p = nkP k
  | .none, k, e => by simp [nkOf] at e; subst e; rfl
  | .int i, k, e => by simp [nkOf] at e; subst e; rfl
  | .str x, k, e => by simp [nkOf] at e; subst e; rfl
  | .bool _, k, e => by simp [nkOf] at e
  | .list _, k, e => by simp [nkOf] at e
  | .dict _, k, e => by simp [nkOf] at e
  | .tuple ps, k, e => by
    rw [nkOf] at e
    obtain ⟨ks, e1, rfl⟩ := Option.map_eq_some_iff.mp e
    rw [nkP, nksOf_eq e1]
theorem nksOf_eq : ∀ {ps : List P} {ks : List NestedKey}, nksOf ps = some ks → ps = nkPs ks
  | [], ks, e => by simp [nksOf] at e; subst e; rfl
  | p :: ps, ks, e => by
    rw [nksOf] at e
    split at e
    · rename_i k ks' e1 e2
      cases e
      rw [nkPs, nkOf_eq e1, nksOf_eq e2]
    · cases e
end
/-- a key of a dict: an int, a text; a tuple -/
inductive KeyOf : P → Type where
  | k (k : Key) : KeyOf (keyP k)
  | n (ks : List NestedKey) (h : (NestedKey.tup ks).depth ≤ 8) : KeyOf (nkP (.tup ks))
def kTup : P → Bool
  | .tuple _ => true
  | _ => false
def kOk (p : P) : Bool := match p with
  | .int _ => true
  | .str _ => true
  | .tuple ps => (match nksOf ps with
    | some ks => decide ((NestedKey.tup ks).depth ≤ 8)
    | none => false)
  | _ => false
/-- p may be looked up there -/
def dOk (kvs : List (P × P)) (p : P) : Bool := kOk p && (match kvs with
  | [] => true
  | (q, _) :: _ => kTup q == kTup p)
theorem kOk_cases {p : P} (h : kOk p = true) : (∃ k : Key, p = keyP k ∧ kTup p = false) ∨ ∃ ks, p = nkP (.tup ks) ∧ (NestedKey.tup ks).depth ≤ 8 ∧ kTup p = true := by
  unfold kOk at h
  split at h
  · exact .inl ⟨.inl _, rfl, rfl⟩
  · exact .inl ⟨.inr _, rfl, rfl⟩
  · split at h
    · rename_i ks e
      exact .inr ⟨ks, by rw [nksOf_eq e]; rfl, of_decide_eq_true h, rfl⟩
    · cases h
  · cases h

/-! ### where a dict stands -/
section
variable {X : Cx} {pins : List (Addr × Obj)} {σ : L2.St} {H : Hp} {s : Shared} {O : Addr → Prop} {a : Addr}
def DK (G : Gd) (H : Hp) (a : Addr) (ls : List (Key × V)) : Prop := Rd H a (.dK ls) ∨ (ls = [] ∧ Rd H a (NDict G.prog G.w a []))
def DN (G : Gd) (H : Hp) (a : Addr) (xs : List (NestedKey × Addr × V)) : Prop := Rd H a (NDict G.prog G.w a xs) ∨ (xs = [] ∧ Rd H a (.dK []))
theorem nd_rd {xs : List (NestedKey × Addr × V)} (I : Inv X pins σ H s) (h : Rd H a (NDict X.prog X.w a xs)) : ∃ us : List (NestedKey × Addr × Value), UN xs us ∧ (a == sysModules) = false ∧
    ∃ o es ep, s.heap.get? a = some o ∧ o.ExactDict ∧ o.data = .dict es ep ∧ es.toList = us.map (entryOfKey (nestedKind X.prog X.w)) ∧ (us.map (·.1)).Nodup := by
  unfold NDict at h
  exact (rd_of I.hok h).1
theorem dk_at {ls : List (Key × V)} (I : Inv X pins σ H s) (h : DK (gd X) H a ls) : ∃ vs, KV ls vs ∧ s.heap.DictOf (mixKind X.prog X.w) a vs ∧ (a == sysModules) = false := by
  rcases h with h | ⟨rfl, h⟩
  · obtain ⟨_, hd, vs, rel, dd⟩ := dk_rd I.hok h
    exact ⟨vs, rel, dd, hd⟩
  · obtain ⟨us, un, hd, o, es, ep, h1, h2, h3, h4, h5⟩ := nd_rd I h
    cases un
    have he : es.toList = [] := h4
    refine ⟨[], .nil, ⟨o, es, ep, h1, h2, h3, fun e he' => ?_, by rw [he]; exact .nil, List.nodup_nil⟩, hd⟩
    have : e ∈ es.toList := by simpa using he'
    rw [he] at this; cases this
theorem dn_at {xs : List (NestedKey × Addr × V)} (I : Inv X pins σ H s) (h : DN (gd X) H a xs) (hk : ∀ q ∈ xs, Rep (gd X) H O (nkP q.1) (.ref q.2.1)) (hd8 : ∀ q ∈ xs, q.1.depth ≤ 8) :
    ∃ us, UN xs us ∧ s.heap.DictOfH (nestedKind X.prog X.w) a us ∧ (a == sysModules) = false := by
  rcases h with h | ⟨rfl, h⟩
  · obtain ⟨us, un, hd, o, es, ep, h1, h2, h3, h4, h5⟩ := nd_rd I h
    refine ⟨us, un, ⟨o, es, ep, h1, h2, h3, h4, ?_, h5⟩, hd⟩
    clear h4 h5 h
    induction un with
    | nil => intro x hx; cases hx
    | @cons p q ps qs z t ih =>
      intro x hx
      rcases List.mem_cons.mp hx with e | hx
      · subst e
        obtain ⟨z1, z2, _⟩ := z
        rw [← z1, ← z2]
        exact ⟨nest_of I _ _ _ (hk p List.mem_cons_self) rfl, hd8 p List.mem_cons_self⟩
      · exact ih (fun q hq => hk q (List.mem_cons_of_mem _ hq)) (fun q hq => hd8 q (List.mem_cons_of_mem _ hq)) x hx
  · obtain ⟨_, hd, vs, rel, o, es, ep, h1, h2, h3, h4, h5, h6⟩ := dk_rd I.hok h
    cases rel
    refine ⟨[], .nil, ⟨o, es, ep, h1, h2, h3, ?_, fun x hx => (by cases hx), List.nodup_nil⟩, hd⟩
    generalize es.toList = l at h5
    cases h5
    rfl
theorem repKs_mem {G : Gd} : ∀ {kvs : List (P × P)} {xs : List (NestedKey × Addr × V)}, kvs.map (·.1) = xs.map (fun q => nkP q.1) → RepKs G H O kvs (xs.map fun q => V.ref q.2.1) → ∀ q ∈ xs, Rep G H O (nkP q.1) (.ref q.2.1)
  | [], [], _, _, q, hq => by cases hq
  | [], _ :: _, e, _, _, _ => by simp at e
  | _ :: _, [], e, _, _, _ => by simp at e
  | (p, d) :: kvs, x :: xs, e, r, q, hq => by
    simp only [List.map_cons, List.cons.injEq] at e
    rw [List.map_cons, RepKs] at r
    obtain ⟨y, ys, e3, r1, r2⟩ := r
    simp only [List.cons.injEq] at e3
    rcases List.mem_cons.mp hq with z | hq
    · subst z
      rw [← e.1, e3.1]; exact r1
    · rw [← e3.2] at r2
      exact repKs_mem e.2 r2 q hq
/-- what a dict tells of a key -/
structure Look (X : Cx) (s : Shared) (a : Addr) (u : Value) (r : Option Value) : Prop where
  isin : ∀ (E Q : Value → Shared → Prop), (∀ tk, Q (.bool r.isSome) { s with toks := tk }) → wpAny (model X.prog X.w) X.A (compareOp .In u (.ref a)) Q E s
  notin : ∀ (E Q : Value → Shared → Prop), (∀ tk, Q (.bool (!r.isSome)) { s with toks := tk }) → wpAny (model X.prog X.w) X.A (compareOp .NotIn u (.ref a)) Q E s
  item : ∀ (E Q : Value → Shared → Prop) (v : Value), r = some v → (∀ tk, Q v { s with toks := tk }) → wpAny (model X.prog X.w) X.A (getItem (.ref a) u) Q E s
  get1 : ∀ (E Q : Value → Shared → Prop), (∀ tk, Q (r.getD .none) { s with toks := tk }) → wpAny (model X.prog X.w) X.A (call (.builtin "dict.get") [.ref a, u]) Q E s
  get2 : ∀ (E Q : Value → Shared → Prop) (z : Value), (∀ tk, Q (r.getD z) { s with toks := tk }) → wpAny (model X.prog X.w) X.A (call (.builtin "dict.get") [.ref a, u, z]) Q E s
def ValIs (G : Gd) (H : Hp) (O : Addr → Prop) : Option P → Option Value → Prop
  | none, none => True
  | some p, some u => ∃ v, Rep G H O p v ∧ RelV v u
  | _, _ => False
theorem valIs_of {G : Gd} {p : Option P} {v : Option V} {u : Option Value} (h : OptRep G H O p v) (r : RelO v u) : ValIs G H O p u := by
  match p, v, u, h, r with
  | none, none, none, _, _ => trivial
  | some _, some _, some _, h, r => exact ⟨_, h, r⟩
  | none, some _, _, h, _ => exact h.elim
  | some _, none, _, h, _ => exact h.elim
  | none, none, some _, _, r => exact r.elim
  | some _, some _, none, _, r => exact r.elim
theorem dic_look (I : Inv X pins σ H s) (hu : X.A.units + 10 < cLine) {u0 : HO} {kvs : List (P × P)} {ks vs : List V} {p : P} {y : V} {u : Value} (hr : Rd H a u0) (hd : DicO (gd X) a u0 kvs ks vs) (rk : RepKs (gd X) H O kvs ks) (rv : RepVs (gd X) H O kvs vs)
    (hp : Rep (gd X) H O p y) (ry : RelV y u) (ok : dOk kvs p = true) : ∃ r, ValIs (gd X) H O (getP kvs p) r ∧ Look X s a u r := by
  unfold dOk at ok
  rw [Bool.and_eq_true] at ok
  obtain ⟨ok1, ok2⟩ := ok
  have hu1 : X.A.in1.units + 8 < cLine := by show X.A.units + 1 + 8 < cLine; omega
  rcases kOk_cases ok1 with ⟨k, rfl, ht⟩ | ⟨nks, rfl, hd8, ht⟩
  · -- an int, a text
    have h : ∃ ls, DK (gd X) H a ls ∧ kvs.map (·.1) = ls.map (fun q => keyP q.1) ∧ vs = ls.map (·.2) := by
      rcases hd with ⟨ls, rfl, e1, e2, e3⟩ | ⟨xs, rfl, e1, e2, e3, _⟩
      · exact ⟨ls, .inl hr, e1, e3⟩
      · cases kvs with
        | nil =>
          cases xs with
          | nil => exact ⟨[], .inr ⟨rfl, hr⟩, rfl, e3⟩
          | cons _ _ => simp at e1
        | cons q kvs =>
          obtain ⟨q1, q2⟩ := q
          cases xs with
          | nil => simp at e1
          | cons x xs =>
            exfalso
            simp only [List.map_cons, List.cons.injEq] at e1
            subst e2
            rw [List.map_cons, RepKs] at rk
            obtain ⟨y1, ys, e4, r1, _⟩ := rk
            simp only [List.cons.injEq] at e4
            rw [← e4.1] at r1
            rw [ht] at ok2
            have ok3 : kTup q1 = false := by simpa using ok2
            have z1 := e1.1
            revert r1 ok3 z1
            cases x.1 <;> intro r1 ok3 z1 <;> rw [z1] at r1 ok3 <;> rw [nkP] at r1 ok3
            · rw [Rep] at r1; cases r1
            · rw [Rep] at r1; cases r1
            · rw [Rep] at r1; cases r1
            · cases ok3
    obtain ⟨ls, dk, e1, rfl⟩ := h
    obtain ⟨us, rel, dd, hd⟩ := dk_at I dk
    have hy : y = kV k := by
      cases k <;> (unfold keyP at hp; rw [Rep] at hp; exact hp)
    subst hy
    have q := get_rep keyP keyP_inj e1 rv k
    have q2 := rel.val k
    refine ⟨valueAt us k, valIs_of q q2, ?_, ?_, ?_, ?_, ?_⟩
    · exact fun E Q h => wpAny_in_of (kV_is ry) hd dd.mapOf (h _)
    · exact fun E Q h => wpAny_notIn_of (kV_is ry) hd dd.mapOf (h _)
    · exact fun E Q v e h => wpAny_getItem_of (kV_is ry) dd.mapOf e (h _)
    · exact fun E Q h => call_meetsIn PySem.F.slot_dict_get dd.typeIs PySem.F.entry_dict_get (PySem.F.args_dict_get_2 _ _) (meets_dict_get (mixKind X.prog X.w) a (kV_is ry) hd) ⟨_, dd.mapOf, h _⟩
    · exact fun E Q z h => call_meetsIn PySem.F.slot_dict_get dd.typeIs PySem.F.entry_dict_get (PySem.F.args_dict_get_3 _ _ _) (meets_dict_get_default (mixKind X.prog X.w) a (kV_is ry) hd z) ⟨_, dd.mapOf, h _⟩
  · -- a tuple
    have h : ∃ xs, DN (gd X) H a xs ∧ kvs.map (·.1) = xs.map (fun q => nkP q.1) ∧ RepKs (gd X) H O kvs (xs.map fun q => V.ref q.2.1) ∧ vs = xs.map (·.2.2) ∧ ∀ q ∈ xs, q.1.depth ≤ 8 := by
      rcases hd with ⟨ls, rfl, e1, e2, e3⟩ | ⟨xs, rfl, e1, e2, e3, e4⟩
      · cases kvs with
        | nil =>
          cases ls with
          | nil => exact ⟨[], .inr ⟨rfl, hr⟩, rfl, by rw [List.map_nil, RepKs], e3, fun q hq => by cases hq⟩
          | cons _ _ => simp at e1
        | cons q kvs =>
          obtain ⟨q1, q2⟩ := q
          cases ls with
          | nil => simp at e1
          | cons x xs =>
            exfalso
            simp only [List.map_cons, List.cons.injEq] at e1
            rw [ht] at ok2
            have ok3 : kTup q1 = true := by simpa using ok2
            rw [e1.1] at ok3
            revert ok3
            cases x.1 <;> intro z <;> cases z
      · exact ⟨xs, .inl hr, e1, by rw [← e2]; exact rk, e3, e4⟩
    obtain ⟨xs, dn, e1, rk', rfl, e5⟩ := h
    obtain ⟨us, un, dd, hd⟩ := dn_at I dn (repKs_mem e1 rk') e5
    have hy : ∃ b, y = .ref b := by
      rw [nkP, Rep] at hp
      obtain ⟨b, _, e, _⟩ := hp
      exact ⟨b, e⟩
    obtain ⟨b, rfl⟩ := hy
    cases (show u = Value.ref b from ry)
    have hkey : (nestedKind X.prog X.w).is s.heap (.tup nks) b := ⟨nest_of I _ _ _ hp rfl, hd8⟩
    have q := get_rep (ls := flatN xs) nkP nkP_inj (by rw [e1]; unfold flatN; rw [List.map_map]; rfl) (by unfold flatN; rw [List.map_map]; exact rv) (.tup nks)
    have q2 := un.at (.tup nks)
    refine ⟨(atKey us (.tup nks)).map (·.2), valIs_of q q2, ?_, ?_, ?_, ?_, ?_⟩
    · intro E Q h
      rw [Option.isSome_map] at h
      exact wpAny_in_heap hu1 hkey hd dd (h _)
    · intro E Q h
      rw [Option.isSome_map] at h
      exact PyProof.Rows.wpAny_notIn_heap hu1 hkey hd dd (h _)
    · intro E Q v e h
      obtain ⟨p, hp, rfl⟩ := Option.map_eq_some_iff.mp e
      exact wpAny_getItem_heap hu1 hkey dd hp (h _)
    · exact fun E Q h => call_meetsIn PySem.F.slot_dict_get dd.typeIs PySem.F.entry_dict_get (PySem.F.args_dict_get_2 _ _) (meetsH_dict_get (nestedKind X.prog X.w) a b hd) ⟨hu1, _, us, hkey, dd, h _⟩
    · exact fun E Q z h => call_meetsIn PySem.F.slot_dict_get dd.typeIs PySem.F.entry_dict_get (PySem.F.args_dict_get_3 _ _ _) (meetsH_dict_get_default (nestedKind X.prog X.w) a b hd z) ⟨hu1, _, us, hkey, dd, h _⟩
end
end PI
/-! PI16: d[k] = v; places, in, get. -/
namespace PI
open PySem PySem.Spec L2

section
variable {X : Cx} {pins : List (Addr × Obj)} {σ : L2.St} {H : Hp} {s : Shared} {O : Addr → Prop} {a : Addr}
theorem nd_new {Pr : Program} {w : World} {H' : Hp} {h' : Heap} {xs : List (NestedKey × Addr × V)} {us : List (NestedKey × Addr × Value)} (hd : (a == sysModules) = false) (un : UN xs us) (dd : h'.DictOfH (nestedKind Pr w) a us) : ObjOk Pr w H' h' a (NDict Pr w a xs) := by
  obtain ⟨o, es, ep, h1, h2, h3, h4, _, h6⟩ := dd
  exact ⟨⟨us, un, hd, o, es, ep, h1, h2, h3, h4, h6⟩, ⟨o, h1⟩, fun ha hb ⟨us, un, hd, o, es, ep, h1, h2⟩ k => ⟨us, un, hd, o, es, ep, k o h1, h2⟩⟩
theorem dicO_mut {G : Gd} {u0 : HO} {kvs : List (P × P)} {ks vs : List V} (h : DicO G a u0 kvs ks vs) : Mut (some u0) ∧ Plain u0 := by
  rcases h with ⟨ls, rfl, _⟩ | ⟨xs, rfl, _⟩
  · exact ⟨True.intro, plain_dK⟩
  · exact ⟨True.intro, plain_nd⟩
theorem dicO_kinds {G : Gd} {u0 : HO} {kvs : List (P × P)} {ks vs : List V} {p : P} (hr : Rd H a u0) (hd : DicO G a u0 kvs ks vs) (rk : RepKs G H O kvs ks) (ok : dOk kvs p = true) :
    (∃ k ls, p = keyP k ∧ DK G H a ls ∧ kvs.map (·.1) = ls.map (fun q => keyP q.1) ∧ vs = ls.map (·.2)) ∨
    ∃ nks xs, p = nkP (.tup nks) ∧ (NestedKey.tup nks).depth ≤ 8 ∧ DN G H a xs ∧ kvs.map (·.1) = xs.map (fun q => nkP q.1) ∧ RepKs G H O kvs (xs.map fun q => V.ref q.2.1) ∧ vs = xs.map (·.2.2) ∧ ∀ q ∈ xs, q.1.depth ≤ 8 := by
  unfold dOk at ok
  rw [Bool.and_eq_true] at ok
  obtain ⟨ok1, ok2⟩ := ok
  rcases kOk_cases ok1 with ⟨k, rfl, ht⟩ | ⟨nks, rfl, hd8, ht⟩
  · refine .inl ⟨k, ?_⟩
    rcases hd with ⟨ls, rfl, e1, e2, e3⟩ | ⟨xs, rfl, e1, e2, e3, _⟩
    · exact ⟨ls, rfl, .inl hr, e1, e3⟩
    · cases kvs with
      | nil =>
        cases xs with
        | nil => exact ⟨[], rfl, .inr ⟨rfl, hr⟩, rfl, e3⟩
        | cons _ _ => simp at e1
      | cons q kvs =>
        obtain ⟨q1, q2⟩ := q
        cases xs with
        | nil => simp at e1
        | cons x xs =>
          exfalso
          simp only [List.map_cons, List.cons.injEq] at e1
          subst e2
          rw [List.map_cons, RepKs] at rk
          obtain ⟨y1, ys, e4, r1, _⟩ := rk
          simp only [List.cons.injEq] at e4
          rw [← e4.1] at r1
          rw [ht] at ok2
          have ok3 : kTup q1 = false := by simpa using ok2
          have z1 := e1.1
          revert r1 ok3 z1
          cases x.1 <;> intro r1 ok3 z1 <;> rw [z1] at r1 ok3 <;> rw [nkP] at r1 ok3
          · rw [Rep] at r1; cases r1
          · rw [Rep] at r1; cases r1
          · rw [Rep] at r1; cases r1
          · cases ok3
  · refine .inr ⟨nks, ?_⟩
    rcases hd with ⟨ls, rfl, e1, e2, e3⟩ | ⟨xs, rfl, e1, e2, e3, e4⟩
    · cases kvs with
      | nil =>
        cases ls with
        | nil => exact ⟨[], rfl, hd8, .inr ⟨rfl, hr⟩, rfl, by rw [List.map_nil, RepKs], e3, fun q hq => by cases hq⟩
        | cons _ _ => simp at e1
      | cons q kvs =>
        obtain ⟨q1, q2⟩ := q
        cases ls with
        | nil => simp at e1
        | cons x xs =>
          exfalso
          simp only [List.map_cons, List.cons.injEq] at e1
          rw [ht] at ok2
          have ok3 : kTup q1 = true := by simpa using ok2
          rw [e1.1] at ok3
          revert ok3
          cases x.1 <;> intro z <;> cases z
    · exact ⟨xs, rfl, hd8, .inl hr, e1, by rw [← e2]; exact rk, e3, e4⟩
theorem repKs_nk {G : Gd} : ∀ {kvs : List (P × P)} {xs : List (NestedKey × Addr × V)}, kvs.map (·.1) = xs.map (fun q => nkP q.1) → (∀ q ∈ xs, Rep G H O (nkP q.1) (.ref q.2.1)) → RepKs G H O kvs (xs.map fun q => V.ref q.2.1)
  | [], [], _, _ => by rw [List.map_nil, RepKs]
  | [], _ :: _, e, _ => by simp at e
  | _ :: _, [], e, _ => by simp at e
  | (p, d) :: kvs, x :: xs, e, h => by
    simp only [List.map_cons, List.cons.injEq] at e
    rw [List.map_cons, RepKs, e.1]
    exact ⟨_, _, rfl, h x List.mem_cons_self, repKs_nk e.2 fun q hq => h q (List.mem_cons_of_mem _ hq)⟩
theorem putN_mem {xs : List (NestedKey × Addr × V)} {k : NestedKey} {b : Addr} {v : V} {q : NestedKey × Addr × V} (h : q ∈ putN xs k b v) : (∃ q' ∈ xs, q.1 = q'.1 ∧ q.2.1 = q'.2.1) ∨ (q.1 = k ∧ q.2.1 = b) := by
  unfold putN at h
  split at h
  · obtain ⟨q', hq, e⟩ := List.mem_map.mp h
    refine .inl ⟨q', hq, ?_⟩
    by_cases c : q'.1 = k
    · rw [if_pos c] at e; subst e; exact ⟨rfl, rfl⟩
    · rw [if_neg c] at e; subst e; exact ⟨rfl, rfl⟩
  · rcases List.mem_append.mp h with h | h
    · exact .inl ⟨q, h, rfl, rfl⟩
    · rw [List.mem_singleton.mp h]; exact .inr ⟨rfl, rfl⟩
theorem dic_put (I : Inv X pins σ H s) (hu : X.A.units + 10 < cLine) {u0 : HO} {kvs : List (P × P)} {ks vs : List V} {p q : P} {y v : V} {u r : Value} (hr : H a = some u0) (hd : DicO (gd X) a u0 kvs ks vs) (rk : RepKs (gd X) H O kvs ks) (rv : RepVs (gd X) H O kvs vs)
    (hp : Rep (gd X) H O p y) (ry : RelV y u) (hq : Rep (gd X) H O q v) (rr : RelV v r) (ok : dOk kvs p = true) (hl : kvs.length < sizeLine) : ∃ u' ks' vs', DicO (gd X) a u' (putP kvs p q) ks' vs' ∧ RepKs (gd X) H O (putP kvs p q) ks' ∧ RepVs (gd X) H O (putP kvs p q) vs' ∧
      (∀ (E : Value → Shared → Prop) (Q : Unit → Shared → Prop), (∀ s', Inv X pins σ (upd H a u') s' → Q () s') → wpAny (model X.prog X.w) X.A (setItem (.ref a) u r) Q E s) ∧
      ∀ (E : Value → Shared → Prop) (Q : Unit → Shared → Prop), (∀ s', Inv X pins σ (upd H a u') s' → Q () s') → wpAny (model X.prog X.w) X.A (dictSet a u r) Q E s := by
  have mu : Mut (H a) := by rw [hr]; exact (dicO_mut hd).1
  rcases dicO_kinds (.inl hr) hd rk ok with ⟨k, ls, rfl, dk, e1, rfl⟩ | ⟨nks, xs, rfl, hd8, dn, e1, rk', rfl, e5⟩
  · obtain ⟨us, rel, dd, hsys⟩ := dk_at I dk
    have hy : y = kV k := by
      cases k <;> (unfold keyP at hp; rw [Rep] at hp; exact hp)
    subst hy
    obtain ⟨p1, p2⟩ := put_rep (k := k) keyP keyP_inj hq e1 rv
    have hll : kvs.length = ls.length := by have := congrArg List.length e1; simpa using this
    have hz : us.length ≤ sizeLine := by rw [← rel.length, ← hll]; omega
    have hl' : (putK ls k v).length ≤ sizeLine := by have := length_putK ls k v; omega
    refine ⟨.dK (putK ls k v), _, _, .inl ⟨_, rfl, p1, rfl, rfl⟩, repKs_key p1, p2, fun E Q h => ?_, fun E Q h => ?_⟩
    · refine wpAny_setItem_pairs (hsz := hz) (kV_is ry) dd fun h' dd' hs => h _ ?_
      have he : ∃ q, h'.get? a = some q := let ⟨q, _, _, hq, _⟩ := dd'; ⟨q, hq⟩
      exact d_write I mu hs he (dk_new hl' hsys (rel.put k rr) dd')
    · refine wpAny_dictSet_pairs (hsz := hz) (kV_is ry) dd fun h' dd' hs => h _ ?_
      have he : ∃ q, h'.get? a = some q := let ⟨q, _, _, hq, _⟩ := dd'; ⟨q, hq⟩
      exact d_write I mu hs he (dk_new hl' hsys (rel.put k rr) dd')
  · have mem := repKs_mem e1 rk'
    obtain ⟨us, un, dd, hsys⟩ := dn_at I dn mem e5
    have hy : ∃ b, y = .ref b := by
      have hp' := hp
      rw [nkP, Rep] at hp'
      obtain ⟨b, _, e, _⟩ := hp'
      exact ⟨b, e⟩
    obtain ⟨b, rfl⟩ := hy
    cases (show u = Value.ref b from ry)
    have hu1 : X.A.in1.units + 8 < cLine := by show X.A.units + 1 + 8 < cLine; omega
    have hu2 : X.A.units + 8 < cLine := by omega
    have hkey : (nestedKind X.prog X.w).is s.heap (.tup nks) b := ⟨nest_of I _ _ _ hp rfl, hd8⟩
    have ef : kvs.map (·.1) = (flatN xs).map (fun q => nkP q.1) := by rw [e1]; unfold flatN; rw [List.map_map]; rfl
    obtain ⟨p1, p2⟩ := put_rep (k := .tup nks) nkP nkP_inj hq ef (by unfold flatN; rw [List.map_map]; exact rv)
    rw [← flatN_put (b := b)] at p1 p2
    have p1' : (putP kvs (nkP (.tup nks)) q).map (·.1) = (putN xs (.tup nks) b v).map (fun q => nkP q.1) := by rw [p1]; unfold flatN; rw [List.map_map]; rfl
    have mem2 : ∀ z ∈ putN xs (.tup nks) b v, Rep (gd X) H O (nkP z.1) (.ref z.2.1) := fun z hz => by
      rcases putN_mem hz with ⟨z', h1, h2, h3⟩ | ⟨h2, h3⟩
      · rw [h2, h3]; exact mem z' h1
      · rw [h2, h3]; exact hp
    have dep2 : ∀ z ∈ putN xs (.tup nks) b v, z.1.depth ≤ 8 := fun z hz => by
      rcases putN_mem hz with ⟨z', h1, h2, h3⟩ | ⟨h2, h3⟩
      · rw [h2]; exact e5 z' h1
      · rw [h2]; exact hd8
    have hll : kvs.length = xs.length := by have := congrArg List.length e1; simpa using this
    have hz : us.length ≤ sizeLine := by rw [← Paired.length un, ← hll]; omega
    refine ⟨NDict X.prog X.w a (putN xs (.tup nks) b v), _, _, .inr ⟨_, rfl, p1', rfl, rfl, dep2⟩, repKs_nk p1' mem2, by unfold flatN at p2; rw [List.map_map] at p2; exact p2, fun E Q h => ?_, fun E Q h => ?_⟩
    · refine wpAny_setItem_heap (hsz := hz) hu1 hkey dd fun h' dd' hs => h _ ?_
      have he : ∃ q, h'.get? a = some q := let ⟨q, _, _, hq, _⟩ := dd'; ⟨q, hq⟩
      exact d_write I mu hs he (nd_new hsys (un.put _ b rr) dd')
    · refine wpAny_dictSet_heap (hsz := hz) hu2 hkey dd fun h' dd' hs => h _ ?_
      have he : ∃ q, h'.get? a = some q := let ⟨q, _, _, hq, _⟩ := dd'; ⟨q, hq⟩
      exact d_write I mu hs he (nd_new hsys (un.put _ b rr) dd')
end

/-! ### in, not in -/
def rDicIn (G : Gd) (neg : Bool) : R2 := fun x y H Q => ∃ (O : Addr → Prop) (p : P) (kvs : List (P × P)) (a : Addr) (ks vs : List V) (u : HO), y = .ref a ∧ Rd H a u ∧ DicO G a u kvs ks vs ∧ RepKs G H O kvs ks ∧ RepVs G H O kvs vs ∧ Rep G H O p x ∧ dOk kvs p = true ∧
  Q (.bl (if neg then !(getP kvs p).isSome else (getP kvs p).isSome)) H
theorem valIs_some {G : Gd} {H : Hp} {O : Addr → Prop} {p : Option P} {u : Option Value} (h : ValIs G H O p u) : p.isSome = u.isSome := by
  match p, u, h with
  | none, none, _ => rfl
  | some _, some _, _ => rfl
theorem op_dicIn {X : Cx} (hu : X.A.units + 10 < cLine) : OpR X (compareOp .In) (rDicIn (gd X) false) := by
  intro pins s σ H x y v u Q I rx ry h
  obtain ⟨O, p, kvs, a, ks, vs, u0, rfl, hr, hd, rk, rv, hp, ok, q⟩ := h
  cases (show u = Value.ref a from ry)
  obtain ⟨r, vi, L⟩ := dic_look I hu hr hd rk rv hp rx ok
  refine L.isin _ _ fun tk => ⟨.bl r.isSome, H, I.tok tk, rfl, ?_⟩
  rw [← valIs_some vi]
  exact q
theorem op_dicNotIn {X : Cx} (hu : X.A.units + 10 < cLine) : OpR X (compareOp .NotIn) (rDicIn (gd X) true) := by
  intro pins s σ H x y v u Q I rx ry h
  obtain ⟨O, p, kvs, a, ks, vs, u0, rfl, hr, hd, rk, rv, hp, ok, q⟩ := h
  cases (show u = Value.ref a from ry)
  obtain ⟨r, vi, L⟩ := dic_look I hu hr hd rk rv hp rx ok
  refine L.notin _ _ fun tk => ⟨.bl (!r.isSome), H, I.tok tk, rfl, ?_⟩
  rw [← valIs_some vi]
  exact q
def inS (neg : Bool) : SV → SV → Option Bool
  | .d p, .d (.dict kvs) => if dOk kvs p = true then some (if neg then !(getP kvs p).isSome else (getP kvs p).isSome) else none
  | .d p, .d (.list ds) => if SeqAt.shaped p = true ∧ SeqAt.shaped (.list ds) = true then some (if neg then !ds.any fun z => PyData.eqv z p else ds.any fun z => PyData.eqv z p) else none
  | .d p, .d (.tuple ds) => if SeqAt.shaped p = true ∧ SeqAt.shaped (.tuple ds) = true then some (if neg then !ds.any fun z => PyData.eqv z p else ds.any fun z => PyData.eqv z p) else none
  | _, _ => none
def rInAll (G : Gd) (neg : Bool) : R2 := fun x y H Q => rDicIn G neg x y H Q ∨ rInT G.K neg x y H Q ∨ (if neg then rNotInD G.K x y H Q else rInD G.K x y H Q)
theorem op_inAll {X : Cx} (hu : X.A.units + 65 < cLine) : OpR X (compareOp .In) (rInAll (gd X) false) := by
  intro pins s σ H x y v u Q I rx ry h
  rcases h with h | h | h
  · exact op_dicIn (by omega) pins s σ H x y v u Q I rx ry h
  · exact op_inT hu pins s σ H x y v u Q I rx ry h
  · exact op_inD hu pins s σ H x y v u Q I rx ry (by simpa using h)
theorem op_ninAll {X : Cx} (hu : X.A.units + 65 < cLine) : OpR X (compareOp .NotIn) (rInAll (gd X) true) := by
  intro pins s σ H x y v u Q I rx ry h
  rcases h with h | h | h
  · exact op_dicNotIn (by omega) pins s σ H x y v u Q I rx ry h
  · exact op_ninT hu pins s σ H x y v u Q I rx ry h
  · exact op_notInD hu pins s σ H x y v u Q I rx ry (by simpa using h)
theorem repR_key {G : Gd} {H : Hp} {hs : List Addr} {O : Addr → Prop} {p : P} {x : V} (ok : kOk p = true) (h : RepR G H hs O (.d p) x) : Rep G H O p x := by
  rcases h with h | ⟨a, rfl, _, o⟩
  · exact h
  · cases p with
    | list ds => cases ok
    | dict kvs => cases ok
    | _ => exact o.elim
theorem sem_in {G : Gd} {neg : Bool} : CmpSem G (inS neg) (rInAll G neg) := by
  intro H hs O s t x y b Q hx hy e q
  unfold inS at e
  split at e
  · rename_i p kvs
    split at e
    · rename_i ok
      cases e
      obtain ⟨a, ks, vs, u, rfl, hr, hd, rk, rv⟩ := repR_dict hy
      have ok1 : kOk p = true := by unfold dOk at ok; rw [Bool.and_eq_true] at ok; exact ok.1
      exact .inl ⟨O, p, kvs, a, ks, vs, u, rfl, hr, hd, rk, rv, repR_key ok1 hx, ok, q⟩
    · cases e
  · split at e
    · rename_i hc
      cases e
      refine .inr (.inr ?_)
      cases neg with
      | true =>
        rw [if_pos rfl]
        rw [if_pos rfl] at q
        exact ⟨_, _, repR_dp hc.1 hx, repR_dp hc.2 hy, hc.1, hc.2, q⟩
      | false =>
        rw [if_neg Bool.false_ne_true]
        rw [if_neg Bool.false_ne_true] at q
        exact ⟨_, _, repR_dp hc.1 hx, repR_dp hc.2 hy, hc.1, hc.2, q⟩
    · cases e
  · split at e
    · rename_i hc
      cases e
      exact .inr (.inl ⟨_, _, repR_dp hc.1 hx, repR_dp hc.2 hy, hc.1, hc.2, q⟩)
    · cases e
  · cases e
end PI
/-! PI17: d[k], d.get, the module's own dicts. -/
namespace PI
open PySem PySem.Spec L2

/-! ### d[k] -/
def rDicIx (G : Gd) : R2 := fun x y H Q => ∃ (O : Addr → Prop) (p q : P) (kvs : List (P × P)) (a : Addr) (ks vs : List V) (u : HO), x = .ref a ∧ Rd H a u ∧ DicO G a u kvs ks vs ∧ RepKs G H O kvs ks ∧ RepVs G H O kvs vs ∧ Rep G H O p y ∧ dOk kvs p = true ∧
  getP kvs p = some q ∧ ∀ v, Rep G H O q v → Q v H
theorem dic_typeIs {X : Cx} {pins : List (Addr × Obj)} {σ : L2.St} {H : Hp} {s : Shared} {a : Addr} {u : HO} {kvs : List (P × P)} {ks vs : List V} (I : Inv X pins σ H s) (hr : Rd H a u) (hd : DicO (gd X) a u kvs ks vs) : ∃ o, s.heap.get? a = some o ∧ o.ExactDict := by
  rcases hd with ⟨ls, rfl, _⟩ | ⟨xs, rfl, _⟩
  · obtain ⟨_, _, _, _, o, _, _, e, ex, _⟩ := dk_rd I.hok hr
    exact ⟨o, e, ex⟩
  · obtain ⟨us, _, _, o, _, _, e, ex, _⟩ := nd_rd I hr
    exact ⟨o, e, ex⟩
theorem ix_dic {X : Cx} (hu : X.A.units + 10 < cLine) : IxR X (rDicIx (gd X)) := by
  intro value slice pins s σ H x y v u Q I rx ry h hs
  obtain ⟨O, p, q, kvs, a, ks, vs, u0, rfl, hr, hd, rk, rv, hp, ok, eg, q'⟩ := h
  cases (show v = Value.ref a from rx)
  obtain ⟨r, vi, L⟩ := dic_look I hu hr hd rk rv hp ry ok
  obtain ⟨o, ho, ex⟩ := dic_typeIs I hr hd
  rw [eg] at vi
  cases r with
  | none => exact vi.elim
  | some w =>
    obtain ⟨z, rz, rw'⟩ := vi
    exact PyProof.Rows.tail_any ⟨o, ho, ex.1⟩ PySem.F.slot_dict_getitem.lookup (L.item _ _ w rfl fun tk => ⟨z, H, I.tok tk, rw', q' z rz⟩) hs
/-- x[i] -/
def ixA (w : W) : SV → SV → Option SV
  | .d (.dict kvs), .d p => if dOk kvs p = true then (getP kvs p).map SV.d else none
  | s, t => ixS w s t
def xIxA (f g : Rx) : Ex := fun sl w => match f sl w with
  | some (s, w1) => (match g sl w1 with
    | some (t, w2) => (match ixA w2 s t with
      | some r => some ((r, false), w2)
      | none => none)
    | none => none)
  | none => none
theorem tOp_or {r r' : R2} {ta tb : TE} (ma : Mono ta) (mb : Mono tb) {σ : L2.St} {H : Hp} {Q : VK} (h : tOp r ta tb σ H Q ∨ tOp r' ta tb σ H Q) : tOp (fun x y H Q => r x y H Q ∨ r' x y H Q) ta tb σ H Q := by
  rcases h with h | h
  · exact ma σ H _ _ (fun v H1 q => mb σ H1 _ _ (fun u H2 q => .inl q) q) h
  · exact ma σ H _ _ (fun v H1 q => mb σ H1 _ _ (fun u H2 q => .inr q) q) h
theorem tE_ixA {G : Gd} {f g : Rx} {σ : L2.St} {H : Hp} {Q : VK} (h : tE G (xIxA f g) σ H Q) : tOp (fun x y H Q => rIx G.K x y H Q ∨ rDicIx G x y H Q) (tR G f) (tR G g) σ H Q := by
  obtain ⟨c, hs, oa, sl, w, sv, b, w', S, e, q⟩ := h
  unfold xIxA at e
  split at e
  · rename_i s w1 e1
    split at e
    · rename_i t w2 e2
      split at e
      · rename_i r e3
        cases e
        by_cases hd : ∃ kvs p, s = .d (.dict kvs) ∧ t = .d p
        · obtain ⟨kvs, p, rfl, rfl⟩ := hd
          unfold ixA at e3
          split at e3
          · rename_i kvs2 p2 ea eb
            cases ea; cases eb
            split at e3
            · rename_i ok
              obtain ⟨z, e4, rfl⟩ := Option.map_eq_some_iff.mp e3
              refine ⟨c, hs, oa, sl, w, _, w1, S, e1, fun v H1 hs1 S1 x1 sb1 r1 => ?_⟩
              refine ⟨c, hs1, oa, sl, w1, _, w', S1, e2, fun u H2 hs2 S2 x2 sb2 r2 => .inr ?_⟩
              obtain ⟨a, ks, vs, u0, rfl, hr, hd, rk, rv⟩ := repR_dict (r1.keep x2 (x2.keep sb2))
              have ok1 : kOk p = true := by unfold dOk at ok; rw [Bool.and_eq_true] at ok; exact ok.1
              exact ⟨_, p, z, kvs, a, ks, vs, u0, rfl, hr, hd, rk, rv, repR_key ok1 r2, ok, e4, fun v rv => q v H2 hs2 S2 (x1.trans x2) (sb1.trans sb2) (resE_rep rv)⟩
            · cases e3
          · rename_i hn
            exact absurd rfl (hn kvs p rfl)
        · have e5 : ixS w' s t = some sv := by
            unfold ixA at e3
            split at e3
            · exact absurd ⟨_, _, rfl, rfl⟩ hd
            · exact e3
          exact tOp_or tR_mono tR_mono (.inl (tE_ix ⟨c, hs, oa, sl, w, sv, false, w', S, by unfold xIx; rw [e1]; simp only; rw [e2]; simp only; rw [e5], q⟩))
      · cases e
    · cases e
  · cases e
theorem pE_ixA {X : Cx} {a b : Expr} {f g : Rx} {pos : Pos} (hu : X.A.units + 10 < cLine) (ha : PE X a (tR (gd X) f)) (hb : PE X b (tR (gd X) g)) (hs : PlainIx b) : PE X (.Subscript a b pos) (tE (gd X) (xIxA f g)) := (pe_ix (ix_seq.or (ix_dic hu)) ha hb hs).imp fun σ H Q h => tE_ixA h

/-! ### the module's own dicts: texts to values, to defs -/
def KTab (G : Gd) (a : Addr) (tbl : List (Str × SV)) : Prop := (a == sysModules) = false ∧ ∃ es n, G.K.lookup a = some ⟨.type "dict", none, .dict es n, #[]⟩ ∧ PySem.W.KeysLit G.w.params es.toList ∧
  ∀ x, (tbl.lookup x = none → PySem.W.nsIn G.K a x = some none) ∧ ∀ sv, tbl.lookup x = some sv → ∃ v u, PySem.W.nsIn G.K a x = some (some u) ∧ RelV v u ∧ ∀ H hs O, RepS G H hs O sv v
def xKIx (tbl : List (Str × SV)) (f : Rx) : Ex := fun sl w => match f sl w with
  | some (.d (.str x), w1) => (match tbl.lookup x with
    | some sv => some ((sv, false), w1)
    | none => none)
  | _ => none
def rKIx (G : Gd) (a : Addr) (tbl : List (Str × SV)) : R2 := fun x y H Q => ∃ z sv, x = .ref a ∧ y = .str z ∧ tbl.lookup z = some sv ∧ ∀ v, (∀ hs O, RepS G H hs O sv v) → Q v H
theorem ix_tab {X : Cx} {a : Addr} {tbl : List (Str × SV)} (K : KTab (gd X) a tbl) : IxR X (rKIx (gd X) a tbl) := by
  intro value slice pins s σ H x y v u Q I rx ry h hs
  obtain ⟨z, sv, rfl, rfl, e, q⟩ := h
  cases (show v = Value.ref a from rx)
  obtain ⟨t, rfl⟩ := ry
  obtain ⟨_, es, n, hl, hk, tb⟩ := K
  obtain ⟨v1, u1, en, ru, rp⟩ := (tb z).2 sv e
  have hm := PySem.W.mapOf_K (prog := X.prog) (w := X.w) I.kIn hl hk
  exact PyProof.Rows.tail_any hm.typeIs PySem.F.slot_dict_getitem.lookup (wpAny_getItem_of (strKind_is X.prog X.w z t) hm (PySem.W.find_K hl en) ⟨v1, H, I.tok _, ru, q v1 fun hs O => rp H hs O⟩) hs
theorem pE_kix {X : Cx} {n b : Expr} {a : Addr} {tbl : List (Str × SV)} {g : Rx} {pos : Pos} (K : KTab (gd X) a tbl) (hn : PE X n (tC (.ref a))) (hb : PE X b (tR (gd X) g)) (hs : PlainIx b) : PE X (.Subscript n b pos) (tE (gd X) (xKIx tbl g)) := (pe_ix (ix_tab K) hn hb hs).imp fun σ H Q h => by
  obtain ⟨c, hs, oa, sl, w, sv, b, w', S, e, q⟩ := h
  unfold xKIx at e
  split at e
  · rename_i x w1 e1
    split at e
    · rename_i sv2 e2
      cases e
      show tR (gd X) g σ H _
      refine ⟨c, hs, oa, sl, w, _, w', S, e1, fun v H1 hs1 S1 x1 sb1 r1 => ?_⟩
      refine ⟨x, sv, rfl, repR_str r1, e2, fun v rv => q v H1 hs1 S1 x1 sb1 ?_⟩
      unfold ResE
      rw [if_neg Bool.false_ne_true]
      exact rv _ _
    · cases e
  · cases e
/-- a text among the keys -/
def xKIn (neg : Bool) (tbl : List (Str × SV)) (f : Rx) : Ex := fun sl w => match f sl w with
  | some (.d (.str x), w1) => some ((.d (.bool (if neg then !(tbl.lookup x).isSome else (tbl.lookup x).isSome)), false), w1)
  | _ => none
def rKIn (a : Addr) (tbl : List (Str × SV)) (neg : Bool) : R2 := fun x y H Q => ∃ z, y = .ref a ∧ x = .str z ∧ Q (.bl (if neg then !(tbl.lookup z).isSome else (tbl.lookup z).isSome)) H
theorem tab_find {G : Gd} {a : Addr} {tbl : List (Str × SV)} (K : KTab G a tbl) (z : Str) : ∃ r, PySem.W.nsIn G.K a z = some r ∧ r.isSome = (tbl.lookup z).isSome := by
  obtain ⟨_, es, n, hl, hk, tb⟩ := K
  cases e : tbl.lookup z with
  | none => exact ⟨none, (tb z).1 e, rfl⟩
  | some sv =>
    obtain ⟨v1, u1, en, _⟩ := (tb z).2 sv e
    exact ⟨some u1, en, rfl⟩
theorem op_kin {X : Cx} {a : Addr} {tbl : List (Str × SV)} (K : KTab (gd X) a tbl) : OpR X (compareOp .In) (rKIn a tbl false) := by
  intro pins s σ H x y v u Q I rx ry h
  obtain ⟨z, rfl, rfl, q⟩ := h
  cases (show u = Value.ref a from ry)
  obtain ⟨t, rfl⟩ := rx
  obtain ⟨r, en, er⟩ := tab_find K z
  obtain ⟨lo, es, n, hl, hk, tb⟩ := K
  have hm := PySem.W.mapOf_K (prog := X.prog) (w := X.w) I.kIn hl hk
  refine wpAny_in_of (strKind_is X.prog X.w z t) lo hm ?_
  rw [PySem.W.find_K hl en, er]
  exact ⟨.bl _, H, I.tok _, rfl, q⟩
theorem op_knin {X : Cx} {a : Addr} {tbl : List (Str × SV)} (K : KTab (gd X) a tbl) : OpR X (compareOp .NotIn) (rKIn a tbl true) := by
  intro pins s σ H x y v u Q I rx ry h
  obtain ⟨z, rfl, rfl, q⟩ := h
  cases (show u = Value.ref a from ry)
  obtain ⟨t, rfl⟩ := rx
  obtain ⟨r, en, er⟩ := tab_find K z
  obtain ⟨lo, es, n, hl, hk, tb⟩ := K
  have hm := PySem.W.mapOf_K (prog := X.prog) (w := X.w) I.kIn hl hk
  refine wpAny_notIn_of (strKind_is X.prog X.w z t) lo hm ?_
  rw [PySem.W.find_K hl en, er]
  exact ⟨.bl _, H, I.tok _, rfl, q⟩
theorem tE_kin {G : Gd} {neg : Bool} {a : Addr} {tbl : List (Str × SV)} {f : Rx} {σ : L2.St} {H : Hp} {Q : VK} (h : tE G (xKIn neg tbl f) σ H Q) : tOp (rKIn a tbl neg) (tR G f) (tC (.ref a)) σ H Q := by
  obtain ⟨c, hs, oa, sl, w, sv, b, w', S, e, q⟩ := h
  unfold xKIn at e
  split at e
  · rename_i x w1 e1
    cases e
    refine ⟨c, hs, oa, sl, w, _, w', S, e1, fun v H1 hs1 S1 x1 sb1 r1 => ?_⟩
    exact ⟨x, rfl, repR_str r1, q _ H1 hs1 S1 x1 sb1 resE_bool⟩
  · cases e
theorem pE_kin {X : Cx} {n b : Expr} {a : Addr} {tbl : List (Str × SV)} {g : Rx} {pos : Pos} (K : KTab (gd X) a tbl) (hn : PE X n (tC (.ref a))) (hb : PE X b (tR (gd X) g)) (hm : behindInMarks .In n = false) : PE X (.Compare b [.In] [n] pos) (tE (gd X) (xKIn false tbl g)) :=
  (pe_cmpR (op_kin K) hb hn hm).imp fun σ H Q h => tE_kin h
theorem pE_knin {X : Cx} {n b : Expr} {a : Addr} {tbl : List (Str × SV)} {g : Rx} {pos : Pos} (K : KTab (gd X) a tbl) (hn : PE X n (tC (.ref a))) (hb : PE X b (tR (gd X) g)) (hm : behindInMarks .NotIn n = false) : PE X (.Compare b [.NotIn] [n] pos) (tE (gd X) (xKIn true tbl g)) :=
  (pe_cmpR (op_knin K) hb hn hm).imp fun σ H Q h => tE_kin h
theorem pC_kin {X : Cx} {n b : Expr} {a : Addr} {tbl : List (Str × SV)} {g : Rx} {pos : Pos} (K : KTab (gd X) a tbl) (hn : PE X n (tC (.ref a))) (hb : PE X b (tR (gd X) g)) (hm : behindInMarks .In n = false) : PT X (.Compare b [.In] [n] pos) (tC' (gd X) (bOf (xKIn false tbl g))) :=
  (pt_cmpR (op_kin K) hb hn hm).imp fun σ H Q h => tE_kin (tC_test h)
theorem pC_knin {X : Cx} {n b : Expr} {a : Addr} {tbl : List (Str × SV)} {g : Rx} {pos : Pos} (K : KTab (gd X) a tbl) (hn : PE X n (tC (.ref a))) (hb : PE X b (tR (gd X) g)) (hm : behindInMarks .NotIn n = false) : PT X (.Compare b [.NotIn] [n] pos) (tC' (gd X) (bOf (xKIn true tbl g))) :=
  (pt_cmpR (op_knin K) hb hn hm).imp fun σ H Q h => tE_kin (tC_test h)
end PI
/-! PI18: x[i] = e, append, extend, pop, +=. -/
namespace PI
open PySem PySem.Spec L2

/-! ### arguments that are read alone -/
def tR1 (G : Gd) (f : Rx) : TA := fun σ H Q => tR G f σ H fun v H1 => Q [v] H1
theorem pA_1 {X : Cx} {e : Expr} {f : Rx} (h : PE X e (tR (gd X) f)) (hs : starEach [e] X.env = (false, eval e X.env) :: starEach [] X.env) : PA X [e] (tR1 (gd X) f) := pa_cons h pa_nil hs
def tR2 (G : Gd) (f g : Rx) : TA := fun σ H Q => tR G f σ H fun v H1 => tR G g σ H1 fun u H2 => Q [v, u] H2
theorem pA_2 {X : Cx} {e e2 : Expr} {f g : Rx} (h : PE X e (tR (gd X) f)) (h2 : PE X e2 (tR (gd X) g)) (hs : starEach [e, e2] X.env = (false, eval e X.env) :: starEach [e2] X.env) (hs2 : starEach [e2] X.env = (false, eval e2 X.env) :: starEach [] X.env) : PA X [e, e2] (tR2 (gd X) f g) := pa_cons h (pa_cons h2 pa_nil hs2) hs

/-! ### x[i] = v -/
def rDicPut (G : Gd) : TSet := fun o i v H Q => ∃ (O : Addr → Prop) (p q : P) (kvs : List (P × P)) (a : Addr) (ks vs : List V) (u : HO), o = .ref a ∧ H a = some u ∧ DicO G a u kvs ks vs ∧ RepKs G H O kvs ks ∧ RepVs G H O kvs vs ∧ Rep G H O p i ∧ Rep G H O q v ∧ dOk kvs p = true ∧ kvs.length < sizeLine ∧
  ∀ u' ks' vs', DicO G a u' (putP kvs p q) ks' vs' → RepKs G H O (putP kvs p q) ks' → RepVs G H O (putP kvs p q) vs' → Q (upd H a u')
theorem set_dic {X : Cx} (hu : X.A.units + 10 < cLine) : PSet X (rDicPut (gd X)) := by
  intro pins s σ H o i v ov iv u Q I ro ri rv' h
  obtain ⟨O, p, q, kvs, a, ks, vs, u0, rfl, hr, hd, rk, rv, hp, hq, ok, hl, k⟩ := h
  cases (show ov = Value.ref a from ro)
  obtain ⟨u', ks', vs', d1, d2, d3, d4, _⟩ := dic_put I hu hr hd rk rv hp ri hq rv' ok hl
  exact d4 _ _ fun s' I' => ⟨_, I', k u' ks' vs' d1 d2 d3⟩
theorem pset_or {X : Cx} {t u : TSet} (a : PSet X t) (b : PSet X u) : PSet X (fun o i v H Q => t o i v H Q ∨ u o i v H Q) := fun pins s σ H o i v ov iv z Q I r1 r2 r3 h =>
  h.elim (a pins s σ H o i v ov iv z Q I r1 r2 r3) (b pins s σ H o i v ov iv z Q I r1 r2 r3)
def gPut (k : Nat) (fi : Rx) : Tx := fun sv sl w => match sv with
  | .d q => (match fi sl w with
    | some (.d p, w1) => (match sl[k]? with
      | some (some (.d (.list ps))) => (match p with
        | .int i => (match ixN ps.length i with
          | some j => if k ∈ w1.own then some (sl.set k (some (.d (.list (ps.set j q)))), w1) else none
          | none => none)
        | _ => none)
      | some (some (.d (.dict kvs))) => if k ∈ w1.own ∧ dOk kvs p = true ∧ kvs.length < sizeLine then some (sl.set k (some (.d (.dict (putP kvs p q)))), w1) else none
      | some (some (.h n)) => (match w1.sto[n]?, p, q with
        | some ns, .int i, .int x => (match ixN ns.length i with
          | some j => if k ∈ w1.own then none else some (sl, { w1 with sto := w1.sto.set n (ns.set j x) })
          | none => none)
        | _, _, _ => none)
      | _ => none)
    | _ => none)
  | _ => none
theorem own_list {G : Gd} {H : Hp} {O : Addr → Prop} {ps : List P} {a : Addr} (h : OwnAt G H O (.d (.list ps)) a) : ∃ xs, H a = some (.lst xs) ∧ Reps G H O ps xs := h
theorem own_dict {G : Gd} {H : Hp} {O : Addr → Prop} {kvs : List (P × P)} {a : Addr} (h : OwnAt G H O (.d (.dict kvs)) a) : ∃ ks vs u, H a = some u ∧ DicO G a u kvs ks vs ∧ RepKs G H O kvs ks ∧ RepVs G H O kvs vs := h
theorem pG_put {X : Cx} {k : Nat} {o i : Expr} {fi : Rx} {pos : Pos} (hu : X.A.units + 10 < cLine) (ho : PE X o (tVar k)) (hi : PE X i (tR (gd X) fi))
    (ha : ∀ v, assign (.Subscript o i pos) X.env v = (do
      let ov ← holding [v] (eval o X.env)
      let iv ← holding [v, ov] (eval i X.env)
      standAt pos
      holding [v, ov, iv] (setItem ov iv v)
      release [v, ov, iv] [])) : PG X (.Subscript o i pos) (tG (gd X) (gPut k fi)) := (pg_sub ho hi (pset_or set_list (set_dic hu)) ha).imp fun v σ H Q h => by
  obtain ⟨c, hs, oa, sl, w, sv, sl', w', S, r, e, q⟩ := h
  unfold gPut at e
  split at e
  · rename_i qv
    split at e
    · rename_i p w1 e1
      -- what the slot holds stands at its place
      have var : ∀ sv0, sl[k]? = some (some sv0) → k ∉ w.own ∨ k ∈ w.own → ∃ z, σ[k]? = some (some z) ∧ (k ∈ w.own → z = .ref (oa k)) ∧ (k ∉ w.own → RepS (gd X) H hs (Off c hs w.own oa) sv0 z) := fun sv0 e0 ho => by
        rcases ho with ho | ho
        · obtain ⟨z, e2, r2⟩ := S.slot k sv0 e0 ho
          exact ⟨z, e2, fun h => absurd h ho, fun _ => r2⟩
        · obtain ⟨sv1, e2, e3, _⟩ := S.owns k ho
          exact ⟨_, e3, fun _ => rfl, fun h => absurd ho h⟩
      split at e
      · rename_i ps e2
        split at e
        · rename_i ii
          split at e
          · rename_i j e3
            split at e
            · rename_i hk
              cases e
              have hk0 : k ∈ w.own ∨ k ∉ w.own := Decidable.em _
              obtain ⟨z, ez, z1, _⟩ := var _ e2 hk0.symm
              refine ⟨z, ez, c, hs, oa, sl, w, _, w', S, e1, fun iv H1 hs1 S1 x1 sb1 r1 => ?_⟩
              have hkw : k ∈ w.own := sb1 k hk
              have hz := z1 hkw
              subst hz
              obtain ⟨sv1, e4, e5, o1⟩ := S1.owns k hk
              rw [e2] at e4; cases e4
              obtain ⟨xs, hx, rx⟩ := own_list o1
              have hl := reps_length rx
              have kq := x1.keep (c := c) (oa := oa) sb1
              have rq : Rep (gd X) H1 (Off c hs1 w'.own oa) qv v := Rep.keep kq _ _ r
              have hO : Off c hs1 w'.own oa (oa k) := .inr (.inr ⟨k, hk, rfl⟩)
              have kw := keep_write (u' := .lst (xs.set j v)) hO hx plain_lst
              obtain ⟨S2, k2⟩ := S1.write (sv' := .d (.list (ps.set j qv))) (u' := .lst (xs.set j v)) hk hx plain_lst ⟨_, upd_same, (reps_set rq j rx).keep kw _ _⟩
              exact .inl ⟨_, xs, ii, j, rfl, repR_int r1, hx, by rw [← hl]; exact e3, q σ _ hs1 oa S2 (kq.trans k2) x1.pre⟩
            · cases e
          · cases e
        · cases e
      · rename_i kvs e2
        split at e
        · rename_i hc
          obtain ⟨hk, ok, hlt⟩ := hc
          cases e
          have hk0 : k ∈ w.own ∨ k ∉ w.own := Decidable.em _
          obtain ⟨z, ez, z1, _⟩ := var _ e2 hk0.symm
          refine ⟨z, ez, c, hs, oa, sl, w, _, w', S, e1, fun iv H1 hs1 S1 x1 sb1 r1 => ?_⟩
          have hkw : k ∈ w.own := sb1 k hk
          have hz := z1 hkw
          subst hz
          obtain ⟨sv1, e4, e5, o1⟩ := S1.owns k hk
          rw [e2] at e4; cases e4
          obtain ⟨ks, vs, u0, hx, hd, rk, rv⟩ := own_dict o1
          have kq := x1.keep (c := c) (oa := oa) sb1
          have rq : Rep (gd X) H1 (Off c hs1 w'.own oa) qv v := Rep.keep kq _ _ r
          have hO : Off c hs1 w'.own oa (oa k) := .inr (.inr ⟨k, hk, rfl⟩)
          have ok1 : kOk p = true := by unfold dOk at ok; rw [Bool.and_eq_true] at ok; exact ok.1
          refine .inr ⟨_, p, qv, kvs, oa k, ks, vs, u0, rfl, hx, hd, rk, rv, repR_key ok1 r1, rq, ok, hlt, fun u' ks' vs' d1 d2 d3 => ?_⟩
          have pl := (dicO_mut hd).2
          have kw := keep_write (u' := u') hO hx pl
          obtain ⟨S2, k2⟩ := S1.write (sv' := .d (.dict (putP kvs p qv))) (u' := u') hk hx pl ⟨ks', vs', u', upd_same, d1, d2.keep kw _ _, d3.keep kw _ _⟩
          exact q σ _ hs1 oa S2 (kq.trans k2) x1.pre
        · cases e
      · rename_i n e2
        split at e
        · rename_i ns ii xx e3
          split at e
          · rename_i j e4
            split at e
            · cases e
            · rename_i hk
              cases e
              have hk0 : k ∈ w.own ∨ k ∉ w.own := Decidable.em _
              obtain ⟨z, ez, z1, z2⟩ := var _ e2 hk0.symm
              have hkw : k ∉ w.own := fun hkw => by
                obtain ⟨sv1, e5, _, o1⟩ := S.owns k hkw
                rw [e2] at e5; cases e5
                exact o1.elim
              obtain ⟨a, rfl, ha⟩ := z2 hkw
              refine ⟨_, ez, c, hs, oa, sl, w, _, w1, S, e1, fun iv H1 hs1 S1 x1 sb1 r1 => ?_⟩
              have kq := x1.keep (c := c) (oa := oa) sb1
              have ha1 : hs1[n]? = some a := pre_get x1.pre ha
              obtain ⟨b, eb, hb⟩ := S1.sto.2 n ns e3
              rw [ha1] at eb; cases eb
              obtain ⟨S2, k2⟩ := S1.writeH (ns' := ns.set j xx) ha1 e3
              have hv : v = .int xx := by
                have : Rep (gd X) H (Off c hs w.own oa) (.int xx) v := r
                rw [Rep] at this; exact this
              subst hv
              refine .inl ⟨a, ns.map V.int, ii, j, rfl, repR_int r1, hb, by rw [List.length_map]; exact e4, ?_⟩
              rw [← List.map_set]
              exact q σ _ hs1 oa S2 (kq.trans k2) x1.pre
          · cases e
        · cases e
      · cases e
    · cases e
  · cases e

/-! ### append, extend, pop -/
section
variable {G : Gd} {c : Cn} {hs : List Addr} {oa : Nat → Addr} {sl : Slots} {w : W} {σ : L2.St} {H : Hp} {k : Nat}
theorem slot_list {ps : List P} (S : SRel G c hs oa sl w σ H) (e : sl[k]? = some (some (.d (.list ps)))) : ∃ a xs, σ[k]? = some (some (.ref a)) ∧ H a = some (.lst xs) ∧ (k ∈ w.own → a = oa k) := by
  by_cases hk : k ∈ w.own
  · obtain ⟨sv, e1, e2, o⟩ := S.owns k hk
    rw [e] at e1; cases e1
    obtain ⟨xs, hx, _⟩ := own_list o
    exact ⟨oa k, xs, e2, hx, fun _ => rfl⟩
  · obtain ⟨v, e1, r⟩ := S.slot k _ e hk
    obtain ⟨a, xs, rfl, hx, _⟩ := rep_list (show Rep _ _ _ (.list ps) v from r)
    exact ⟨a, xs, e1, hx, fun h => absurd h hk⟩
theorem slot_hand {n : Nat} (S : SRel G c hs oa sl w σ H) (e : sl[k]? = some (some (.h n))) : ∃ a, σ[k]? = some (some (.ref a)) ∧ hs[n]? = some a ∧ k ∉ w.own := by
  by_cases hk : k ∈ w.own
  · obtain ⟨sv, e1, e2, o⟩ := S.owns k hk
    rw [e] at e1; cases e1
    exact o.elim
  · obtain ⟨v, e1, r⟩ := S.slot k _ e hk
    obtain ⟨a, rfl, ha⟩ := r
    exact ⟨a, e1, ha, hk⟩
theorem slot_dict {kvs : List (P × P)} (S : SRel G c hs oa sl w σ H) (e : sl[k]? = some (some (.d (.dict kvs)))) : ∃ a ks vs u, σ[k]? = some (some (.ref a)) ∧ Rd H a u ∧ DicO G a u kvs ks vs ∧ (k ∈ w.own → a = oa k) := by
  by_cases hk : k ∈ w.own
  · obtain ⟨sv, e1, e2, o⟩ := S.owns k hk
    rw [e] at e1; cases e1
    obtain ⟨ks, vs, u, hx, d, _⟩ := own_dict o
    exact ⟨oa k, ks, vs, u, e2, .inl hx, d, fun _ => rfl⟩
  · obtain ⟨v, e1, r⟩ := S.slot k _ e hk
    obtain ⟨a, ks, vs, u, rfl, hr, d, _⟩ := repR_dict (.inl r)
    exact ⟨a, ks, vs, u, e1, hr, d, fun h => absurd h hk⟩
/-- the list that a name owns gets other items -/
theorem SRel.writeL {ps ps' : List P} {ys : List V} (S : SRel G c hs oa sl w σ H) (e : sl[k]? = some (some (.d (.list ps)))) (hk : k ∈ w.own) (r : Reps G H (Off c hs w.own oa) ps' ys) :
    SRel G c hs oa (sl.set k (some (.d (.list ps')))) w σ (upd H (oa k) (.lst ys)) ∧ Keep (Off c hs w.own oa) H (Off c hs w.own oa) (upd H (oa k) (.lst ys)) := by
  obtain ⟨sv1, e4, e5, o1⟩ := S.owns k hk
  rw [e] at e4; cases e4
  obtain ⟨xs, hx, rx⟩ := own_list o1
  have hO : Off c hs w.own oa (oa k) := .inr (.inr ⟨k, hk, rfl⟩)
  have kw := keep_write (u' := .lst ys) hO hx plain_lst
  exact S.write hk hx plain_lst ⟨_, upd_same, r.keep kw _ _⟩
theorem own_items {ps : List P} (S : SRel G c hs oa sl w σ H) (e : sl[k]? = some (some (.d (.list ps)))) (hk : k ∈ w.own) : ∃ xs, H (oa k) = some (.lst xs) ∧ Reps G H (Off c hs w.own oa) ps xs := by
  obtain ⟨sv1, e4, e5, o1⟩ := S.owns k hk
  rw [e] at e4; cases e4
  exact own_list o1
end
/-- a method call's form -/
structure MForm (X : Cx) (o : Expr) (m : Str) (e : Expr) (apos cpos : Pos) : Prop where
  base : attributeBase o m X.env (eval o X.env) = eval o X.env
  few : ((backTo cpos (starEach [e] X.env)).all (fun x => !x.1) && (backToKw cpos (keywordEach [] X.env)).all (fun x => x.1.isSome)
      && decide (([e] : List Expr).length + ([] : List Keyword).length + (if ([] : List Keyword).isEmpty then 0 else 1) < 30)) = true
  line : (apos.endLine == cpos.line) = true
  star : starEach [e] X.env = (false, eval e X.env) :: starEach [] X.env
  plain : (backTo cpos (starEach [] X.env)).any (·.1) = false
def sApp (k : Nat) (f : Ex) : Sx := fun sl w => match f sl w with
  | some ((.d p, _), w1) => (match sl[k]? with
    | some (some (.d (.list ps))) => if k ∈ w1.own ∧ ps.length < sizeLine then some (.nx, sl.set k (some (.d (.list (ps ++ [p])))), w1) else none
    | some (some (.h n)) => (match w1.sto[n]?, p with
      | some ns, .int x => if ns.length < sizeLine then some (.nx, sl, { w1 with sto := w1.sto.set n (ns ++ [x]) }) else none
      | _, _ => none)
    | _ => none)
  | _ => none
theorem pS_app {X : Cx} {k : Nat} {o e : Expr} {f : Ex} {apos cpos pos : Pos} (ho : PE X o (tVar k)) (he : PE X e (tE (gd X) f)) (m : MForm X o "append" e apos cpos)
    (hs : swapsWith (.Call (.Attribute o "append" apos) [e] [] cpos) none pos.line X.env = pure false) : PS X (.Expr (.Call (.Attribute o "append" apos) [e] [] cpos) pos) (tS (gd X) (sApp k f)) :=
  (ps_expr (pe_bm F.plainAttrs_list F.slot_list_append F.type_list_append mt_append ho (pa_cons he pa_nil m.star) m.base m.few m.line m.star m.plain) hs).imp fun D σ H h => by
    obtain ⟨c, hs, oa, sl, w, o, sl', w', S, e, q⟩ := h
    unfold sApp at e
    split at e
    · rename_i p b w1 e1
      split at e
      · rename_i ps e2
        split at e
        · rename_i hc
          obtain ⟨hk, hz⟩ := hc
          cases e
          obtain ⟨a, xs0, e3, hx0, ha⟩ := slot_list S e2
          refine ⟨_, e3, .inl ⟨rfl, xs0, .inl (.inl hx0)⟩, c, hs, oa, sl, w, _, b, w', S, e1, fun v H1 hs1 S1 x1 sb1 r1 => ?_⟩
          obtain ⟨xs, hx, rx⟩ := own_items S1 e2 hk
          cases ha (sb1 k hk)
          have rp : Rep (gd X) H1 (Off c hs1 w'.own oa) p v := r1.rep S x1 sb1
          obtain ⟨S2, k2⟩ := S1.writeL e2 hk (reps_append rx (reps_cons rp reps_nil))
          exact ⟨oa k, xs, v, rfl, rfl, hx, by rw [← reps_length rx]; exact hz, q σ _ hs1 oa S2 ((x1.keep sb1).trans k2)⟩
        · cases e
      · rename_i n e2
        split at e
        · rename_i ns x e3
          split at e
          · rename_i hz
            cases e
            obtain ⟨a, e4, ha, hk⟩ := slot_hand S e2
            obtain ⟨ns0, hx0⟩ := S.sto.at_ (List.mem_of_getElem? ha)
            refine ⟨_, e4, .inl ⟨rfl, _, .inl (.inl hx0)⟩, c, hs, oa, sl, w, _, b, w1, S, e1, fun v H1 hs1 S1 x1 sb1 r1 => ?_⟩
            have ha1 : hs1[n]? = some a := pre_get x1.pre ha
            obtain ⟨a', eb, hb⟩ := S1.sto.2 n ns e3
            rw [ha1] at eb; cases eb
            have hv : v = .int x := repS_int (r1.rep S x1 sb1)
            subst hv
            obtain ⟨S2, k2⟩ := S1.writeH (ns' := ns ++ [x]) ha1 e3
            refine ⟨a, ns.map V.int, .int x, rfl, rfl, hb, by rw [List.length_map]; exact hz, ?_⟩
            have em : ns.map V.int ++ [V.int x] = (ns ++ [x]).map V.int := by rw [List.map_append]; rfl
            rw [em]
            exact q σ _ hs1 oa S2 ((x1.keep sb1).trans k2)
          · cases e
        · cases e
      · cases e
    · cases e
def sExt (k : Nat) (f : Rx) : Sx := fun sl w => match f sl w with
  | some (.d (.list qs), w1) => (match sl[k]? with
    | some (some (.d (.list ps))) => if k ∈ w1.own ∧ ps.length + qs.length ≤ sizeLine then some (.nx, sl.set k (some (.d (.list (ps ++ qs)))), w1) else none
    | _ => none)
  | _ => none
theorem repR_reps {G : Gd} {H : Hp} {hs : List Addr} {O : Addr → Prop} {ps : List P} {x : V} (h : RepR G H hs O (.d (.list ps)) x) : ∃ a xs, x = .ref a ∧ H a = some (.lst xs) ∧ Reps G H O ps xs := repR_list h
theorem pS_ext {X : Cx} {k : Nat} {o e : Expr} {f : Rx} {apos cpos pos : Pos} (ho : PE X o (tVar k)) (he : PE X e (tR (gd X) f)) (m : MForm X o "extend" e apos cpos)
    (hs : swapsWith (.Call (.Attribute o "extend" apos) [e] [] cpos) none pos.line X.env = pure false) : PS X (.Expr (.Call (.Attribute o "extend" apos) [e] [] cpos) pos) (tS (gd X) (sExt k f)) :=
  (ps_expr (pe_bm F.plainAttrs_list F.slot_list_extend F.type_list_extend mt_extend ho (pA_1 he m.star) m.base m.few m.line m.star m.plain) hs).imp fun D σ H h => by
    obtain ⟨c, hs, oa, sl, w, o, sl', w', S, e, q⟩ := h
    unfold sExt at e
    split at e
    · rename_i qs w1 e1
      split at e
      · rename_i ps e2
        split at e
        · rename_i hc
          obtain ⟨hk, hz⟩ := hc
          cases e
          obtain ⟨a, xs0, e3, hx0, ha⟩ := slot_list S e2
          refine ⟨_, e3, .inl ⟨rfl, xs0, .inl (.inl hx0)⟩, c, hs, oa, sl, w, _, w', S, e1, fun v H1 hs1 S1 x1 sb1 r1 => ?_⟩
          obtain ⟨xs, hx, rx⟩ := own_items S1 e2 hk
          cases ha (sb1 k hk)
          obtain ⟨b, zs, rfl, hb, rb⟩ := repR_reps r1
          obtain ⟨S2, k2⟩ := S1.writeL e2 hk (reps_append rx rb)
          exact ⟨oa k, b, xs, zs, rfl, rfl, hx, hb, by rw [← reps_length rx, ← reps_length rb]; exact hz, q σ _ hs1 oa S2 ((x1.keep sb1).trans k2)⟩
        · cases e
      · cases e
    · cases e
/-- y = x.pop() -/
def sPop (i k : Nat) : Sx := fun sl w => match sl[k]? with
  | some (some (.d (.list ps))) => (match ps.getLast? with
    | some p => if k ∈ w.own ∧ k ≠ i then some (.nx, (sl.set k (some (.d (.list ps.dropLast)))).set i (some (.d p)), { w with own := w.own.erase i }) else none
    | none => none)
  | _ => none
theorem reps_dropLast {G : Gd} {H : Hp} {O : Addr → Prop} {ps : List P} {xs : List V} (h : Reps G H O ps xs) : Reps G H O ps.dropLast xs.dropLast := by
  rw [List.dropLast_eq_take, List.dropLast_eq_take, reps_length h]
  exact reps_take _ h
theorem pS_pop {X : Cx} {i k : Nat} {x : Str} {o : Expr} {apos cpos pos pos' : Pos} (hN : X.N.Nodup) (hi : X.N[i]? = some x) (hx : Loc X.env.scope x) (ho : PE X o (tVar k)) (hbase : attributeBase o "pop" X.env (eval o X.env) = eval o X.env) (hline : (apos.endLine == cpos.line) = true)
    (hs : swapsWith (.Call (.Attribute o "pop" apos) [] [] cpos) (some (.Name x pos')) pos.line X.env = pure false) (hf : X.fn x = true ∨ X.env.scope.names.lookup x = some .local) :
    PS X (.Assign [.Name x pos'] (.Call (.Attribute o "pop" apos) [] [] cpos) pos) (tS (gd X) (sPop i k)) :=
  (ps_set hN hi hx (pe_bm0 F.plainAttrs_list F.slot_list_pop F.type_list_pop mt_pop ho hbase hline) hs hf).imp fun D σ H h => by
    obtain ⟨c, hs, oa, sl, w, o, sl', w', S, e, q⟩ := h
    unfold sPop at e
    split at e
    · rename_i ps e2
      split at e
      · rename_i p e3
        split at e
        · rename_i hc
          obtain ⟨hk, hki⟩ := hc
          cases e
          obtain ⟨a, xs0, e4, hx0, ha⟩ := slot_list S e2
          obtain ⟨xs, hx, rx⟩ := own_items S e2 hk
          cases ha hk
          have hl := reps_length rx
          have e5 : ps[ps.length - 1]? = some p := by rw [← e3, List.getLast?_eq_getElem?]
          obtain ⟨v, e6, rv⟩ := reps_get rx e5
          obtain ⟨S2, k2⟩ := S.writeL e2 hk (reps_dropLast rx)
          have rv2 := Rep.keep k2 _ _ rv
          have S3 := S2.set (i := i) (sv := .d p) (v := v) (Rep.keep (.less off_erase) _ _ rv2)
          exact ⟨_, e4, .inl ⟨rfl, xs, .inl (.inl hx)⟩, oa k, xs, v, rfl, rfl, hx, by rw [← hl]; exact e6, q _ _ hs oa S3 (k2.trans (.less off_erase))⟩
        · cases e
      · cases e
    · cases e
/-- x += e -/
def sAug (i : Nat) (op : Int → Int → Int) (f : Rx) : Sx := fun sl w => match sl[i]? with
  | some (some (.d (.int a))) => (match f sl w with
    | some (.d (.int b), w1) => some (.nx, sl.set i (some (.d (.int (op a b)))), { w1 with own := w1.own.erase i })
    | _ => none)
  | _ => none
theorem pS_aug {X : Cx} {i : Nat} {x : Str} {e : Expr} {f : Rx} {op : Operator} {g : Int → Int → Int} {pos pos' : Pos} (hN : X.N.Nodup) (hi : X.N[i]? = some x) (hx : Loc X.env.scope x) (he : PE X e (tR (gd X) f)) (ho : PIp X op (ipI g)) (hf : X.fn x = true ∨ X.env.scope.names.lookup x = some .local) :
    PS X (.AugAssign (.Name x pos') op e pos) (tS (gd X) (sAug i g f)) := (ps_aug hN hi hx he ho hf).imp fun D σ H h => by
  obtain ⟨c, hs, oa, sl, w, o, sl', w', S, e, q⟩ := h
  unfold sAug at e
  split at e
  · rename_i a e1
    split at e
    · rename_i b w1 e2
      cases e
      have hk : i ∉ w.own := fun hk => by
        obtain ⟨sv, e3, _, o⟩ := S.owns i hk
        rw [e1] at e3; cases e3
        exact o.elim
      obtain ⟨v, e3, r⟩ := S.slot i _ e1 hk
      refine ⟨v, e3, c, hs, oa, sl, w, _, w1, S, e2, fun u H1 hs1 S1 x1 sb1 r1 => ?_⟩
      refine ⟨a, b, repS_int r, repR_int r1, ?_⟩
      have S2 := S1.set (i := i) (sv := .d (.int (g a b))) (v := .int (g a b)) (by show Rep _ _ _ _ _; rw [Rep])
      exact q _ H1 hs1 oa S2 ((x1.keep sb1).trans (.less off_erase))
    · cases e
  · cases e
end PI
/-! PI19: a, b, .. = x, y, ..: what is new becomes the names' own. -/
namespace PI
open PySem PySem.Spec L2

def adds (c : Cn) : List (Addr × HO) → Cn
  | [] => c
  | (p, u) :: r => adds (c.add p u) r
def AddsOk (c : Cn) : List (Addr × HO) → Prop
  | [] => True
  | (p, u) :: r => c.He p = none ∧ ¬ c.F p ∧ AddsOk (c.add p u) r
def HV (G : Gd) (H : Hp) (hs : List Addr) (O : Addr → Prop) : List (Addr × HO) → List (SV × Bool) → List V → Prop
  | as, [], vs => as = [] ∧ vs = []
  | as, (sv, true) :: ss, vs => ∃ p u r as', as = (p, u) :: as' ∧ vs = .ref p :: r ∧ OwnAt G H O sv p ∧ HV G H hs O as' ss r
  | as, (sv, false) :: ss, vs => ∃ v r, vs = v :: r ∧ RepS G H hs O sv v ∧ HV G H hs O as ss r
section
variable {G : Gd} {c : Cn} {hs hs' : List Addr} {oa oa' : Nat → Addr} {sl sl' : Slots} {w w' : W} {σ σ' : L2.St} {H H' : Hp} {O O' : Addr → Prop} {p : Addr} {u u' : HO}
theorem HV.less (k : ∀ a, O' a → O a) : ∀ {ss : List (SV × Bool)} {as : List (Addr × HO)} {vs : List V}, HV G H hs O as ss vs → HV G H hs O' as ss vs
  | [], _, _, h => h
  | (sv, true) :: ss, _, _, ⟨p, u, r, as', e1, e2, o, h⟩ => ⟨p, u, r, as', e1, e2, o.keep (.less k) (fun _ e _ => e), HV.less k h⟩
  | (sv, false) :: ss, _, _, ⟨v, r, e, h1, h2⟩ => ⟨v, r, e, h1.keep (.less k) (List.prefix_refl _), HV.less k h2⟩
theorem HV.length : ∀ {ss : List (SV × Bool)} {as : List (Addr × HO)} {vs : List V}, HV G H hs O as ss vs → vs.length = ss.length
  | [], _, _, h => by rw [h.2]; rfl
  | (sv, true) :: ss, _, _, ⟨p, u, r, as', e1, e2, o, h⟩ => by rw [e2, List.length_cons, List.length_cons, HV.length h]
  | (sv, false) :: ss, _, _, ⟨v, r, e, h1, h2⟩ => by rw [e, List.length_cons, List.length_cons, HV.length h2]
theorem adds_he {p : Addr} {u : HO} : ∀ {as : List (Addr × HO)} {c : Cn}, AddsOk c as → c.He p = some u → (adds c as).He p = some u
  | [], _, _, h => h
  | (q, v) :: as, c, ⟨h1, _, h3⟩, h => adds_he (c := c.add q v) (as := as) h3 (by rw [add_he_ne (fun z => by rw [z, h1] at h; cases h)]; exact h)
theorem adds_f {p : Addr} : ∀ {as : List (Addr × HO)} {c : Cn}, c.F p → (adds c as).F p
  | [], _, h => h
  | (q, v) :: as, c, h => adds_f (c := c.add q v) (as := as) (.inl h)
/-- a new value is kept off till it gets its name -/
theorem SRel.hold (S : SRel G c hs oa sl w σ H) (x : Ext hs H hs' H') (S' : SRel G c hs' oa sl w' σ H') (sb : Sub w' w) (hp : H p = none) (hh : p ∉ hs') (hu : H' p = some u) : SRel G (c.add p u) hs' oa sl w' σ H' ∧ c.He p = none ∧ ¬ c.F p := by
  obtain ⟨k1, k2⟩ := S.apart x S' sb hp
  obtain ⟨g1, g2⟩ := He_none S hp
  have k : Keep (fun a => Off c hs' w'.own oa a ∨ a = p) H' (Off (c.add p u) hs' w'.own oa) H' := .less fun a z => (off_add a).mp z
  refine ⟨⟨S'.len, fun i sv e n => ?_, fun i hi => ?_, S'.inj, fun i hi => ?_, S'.nd, S'.sto, S'.hnd, S'.hown, fun a z => ?_, fun a v n e t => ?_, fun a ha => ?_, S'.hpre, fun a ps e => ?_, S'.tb⟩, g1, g2⟩
  · obtain ⟨v, e1, r⟩ := k1 i sv e n
    exact ⟨v, e1, r.keep k (List.prefix_refl _)⟩
  · obtain ⟨sv, e1, e2, _, o⟩ := k2 i hi
    exact ⟨sv, e1, e2, o.keep k fun u e _ => e⟩
  · obtain ⟨_, _, _, n, _⟩ := k2 i hi
    rw [add_he_ne n]; exact S'.new i hi
  · rcases z with z | z
    · have := S'.fd a z
      have hne : a ≠ p := fun q => g2 (by rw [← q]; exact z)
      rw [add_he_ne hne]; exact this
    · subst z; exact ⟨⟨u, add_he⟩, hh⟩
  · by_cases h : a = p
    · subst h; rw [add_he] at e; rw [hu]; exact e
    · rw [add_he_ne h] at e; exact S'.ext a v n e t
  · have h : a ≠ p := fun z => hh (by rw [← z]; exact ha)
    rw [add_he_ne h]; exact S'.h0 a ha
  · by_cases h : a = p
    · subst h; rw [add_he] at e; exact ⟨ps, by rw [hu]; exact e⟩
    · rw [add_he_ne h] at e; exact S'.tbl a ps e
/-- it gets its name -/
theorem SRel.setHold {i : Nat} {sv : SV} (hl : i < sl.length) (S : SRel G (c.add p u) hs oa sl w σ H) (h1 : c.He p = none) (h2 : ¬ c.F p) (o : OwnAt G H (Off (c.add p u) hs w.own oa) sv p) :
    ∃ oa', SRel G c hs oa' (sl.set i (some sv)) { w with own := i :: w.own.erase i } (σ.set i (some (.ref p))) H ∧ ∀ a, Off c hs (i :: w.own.erase i) oa' a → Off (c.add p u) hs w.own oa a := by
  have hh : p ∉ hs := (S.fd p (.inr rfl)).2
  have hnp : ∀ j, j ∈ w.own → oa j ≠ p := fun j hj z => by
    have := S.new j hj
    rw [z, add_he] at this; cases this
  have hne : ∀ j, j ∈ w.own.erase i → j ≠ i := fun j hj e => by
    subst e
    exact (List.Nodup.mem_erase_iff S.nd).mp hj |>.1 rfl
  have less : ∀ a, Off c hs (i :: w.own.erase i) (oaSet oa i p) a → Off (c.add p u) hs w.own oa a := fun a z => by
    rcases z with z | z | ⟨j, hj, z⟩
    · exact .inl (.inl z)
    · exact .inr (.inl z)
    · rcases List.mem_cons.mp hj with e | hj
      · subst e
        rw [oaSet_same] at z
        exact .inl (.inr z.symm)
      · rw [oaSet_ne (hne j hj)] at z
        exact .inr (.inr ⟨j, List.mem_of_mem_erase hj, z⟩)
  have k : Keep (Off (c.add p u) hs w.own oa) H (Off c hs (i :: w.own.erase i) (oaSet oa i p)) H := .less less
  refine ⟨oaSet oa i p, ⟨by rw [List.length_set, List.length_set]; exact S.len, fun j sv' e n => ?_, fun j hj => ?_, fun j hj q hq e => ?_, fun j hj => ?_, List.nodup_cons.mpr ⟨fun z => hne i z rfl, S.nd.erase i⟩, S.sto, S.hnd, fun j hj => ?_, fun a z => ?_, fun a v n e t => ?_, fun a ha => ?_, S.hpre, fun a ps e => ?_, S.tb⟩, less⟩
  · have hj : i ≠ j := fun e => n (by rw [e]; exact List.mem_cons_self)
    rw [List.getElem?_set_ne hj] at e ⊢
    have n2 : j ∉ w.own := fun z => n (List.mem_cons_of_mem _ ((List.mem_erase_of_ne (Ne.symm hj)).mpr z))
    obtain ⟨v, e1, r⟩ := S.slot j sv' e n2
    exact ⟨v, e1, r.keep k (List.prefix_refl _)⟩
  · rcases List.mem_cons.mp hj with e | hj
    · subst e
      refine ⟨sv, by rw [List.getElem?_set_self hl], by rw [List.getElem?_set_self (by rw [← S.len]; exact hl), oaSet_same], ?_⟩
      rw [oaSet_same]
      exact o.keep k fun u e _ => e
    · have h1 := hne j hj
      obtain ⟨sv', e1, e2, o'⟩ := S.owns j (List.mem_of_mem_erase hj)
      rw [List.getElem?_set_ne (Ne.symm h1), List.getElem?_set_ne (Ne.symm h1), oaSet_ne h1]
      exact ⟨sv', e1, e2, o'.keep k fun u e _ => e⟩
  · rcases List.mem_cons.mp hj with e1 | hj <;> rcases List.mem_cons.mp hq with e2 | hq
    · rw [e1, e2]
    · subst e1
      rw [oaSet_same, oaSet_ne (hne q hq)] at e
      exact absurd e.symm (hnp q (List.mem_of_mem_erase hq))
    · subst e2
      rw [oaSet_same, oaSet_ne (hne j hj)] at e
      exact absurd e (hnp j (List.mem_of_mem_erase hj))
    · rw [oaSet_ne (hne j hj), oaSet_ne (hne q hq)] at e
      exact S.inj j (List.mem_of_mem_erase hj) q (List.mem_of_mem_erase hq) e
  · rcases List.mem_cons.mp hj with e1 | hj
    · subst e1; rw [oaSet_same]; exact h1
    · rw [oaSet_ne (hne j hj), ← add_he_ne (c := c) (u := u) (hnp j (List.mem_of_mem_erase hj))]
      exact S.new j (List.mem_of_mem_erase hj)
  · rcases List.mem_cons.mp hj with e1 | hj
    · subst e1; rw [oaSet_same]; exact hh
    · rw [oaSet_ne (hne j hj)]; exact S.hown j (List.mem_of_mem_erase hj)
  · have ha : a ≠ p := fun q => h2 (by rw [← q]; exact z)
    have := S.fd a (.inl z)
    rw [add_he_ne ha] at this; exact this
  · have ha : a ≠ p := fun z => by rw [z, h1] at e; cases e
    exact S.ext a v n (by rw [add_he_ne ha]; exact e) t
  · have h : a ≠ p := fun z => hh (by rw [← z]; exact ha)
    have := S.h0 a ha
    rw [add_he_ne h] at this; exact this
  · have ha : a ≠ p := fun z => by rw [z, h1] at e; cases e
    exact S.tbl a ps (by rw [add_he_ne ha]; exact e)
end

/-- the elements, what is new with them -/
def evO : List Ex → Slots → W → Option (List (SV × Bool) × W)
  | [], _, w => some ([], w)
  | f :: fs, sl, w => match f sl w with
    | some (r, w1) => (match evO fs sl w1 with
      | some (ss, w2) => some (r :: ss, w2)
      | none => none)
    | none => none
def tO (G : Gd) (fs : List Ex) : TA := fun σ H Q => ∃ c hs oa sl w ss w', SRel G c hs oa sl w σ H ∧ evO fs sl w = some (ss, w') ∧
  ∀ vs H' hs' as, SRel G (adds c as) hs' oa sl w' σ H' → AddsOk c as → HV G H' hs' (Off (adds c as) hs' w'.own oa) as ss vs → Keep (Off c hs w.own oa) H (Off (adds c as) hs' w'.own oa) H' → hs <+: hs' → Q vs H'
theorem pO_nil' {X : Cx} : PA X [] (tO (gd X) []) := pa_nil.imp fun σ H Q h => by
  obtain ⟨c, hs, oa, sl, w, ss, w', S, e, q⟩ := h
  cases e
  exact q [] H hs [] S True.intro ⟨rfl, rfl⟩ .refl (List.prefix_refl _)
theorem pO_cons' {X : Cx} {e : Expr} {es : List Expr} {f : Ex} {fs : List Ex} (h1 : PE X e (tE (gd X) f)) (h2 : PA X es (tO (gd X) fs)) (hst : starEach (e :: es) X.env = (false, eval e X.env) :: starEach es X.env) : PA X (e :: es) (tO (gd X) (f :: fs)) :=
  (pa_cons h1 h2 hst).imp fun σ H Q h => by
    obtain ⟨c, hs, oa, sl, w, ss, w', S, e, q⟩ := h
    unfold evO at e
    split at e
    · rename_i r w1 e1
      obtain ⟨sv, b⟩ := r
      split at e
      · rename_i ss2 w2 e2
        cases e
        refine ⟨c, hs, oa, sl, w, sv, b, w1, S, e1, fun v H1 hs1 S1 x1 sb1 r1 => ?_⟩
        have k1 := x1.keep (c := c) (oa := oa) sb1
        cases b with
        | false =>
          have r1 : RepS (gd X) H1 hs1 (Off c hs1 w1.own oa) sv v := r1
          refine ⟨c, hs1, oa, sl, w1, ss2, w', S1, e2, fun vs H2 hs2 as S2 ao hv k2 p2 => ?_⟩
          exact q _ H2 hs2 as S2 ao ⟨v, vs, rfl, r1.keep k2 p2, hv⟩ (k1.trans k2) (x1.pre.trans p2)
        | true =>
          have r1 : Fresh (gd X) H H1 hs1 (Off c hs1 w1.own oa) sv v := r1
          obtain ⟨p, rfl, hp, hh, o⟩ := r1
          obtain ⟨u, hu⟩ := o.some
          obtain ⟨S1', g1, g2⟩ := S.hold x1 S1 sb1 hp hh hu
          refine ⟨c.add p u, hs1, oa, sl, w1, ss2, w', S1', e2, fun vs H2 hs2 as S2 ao hv k2 p2 => ?_⟩
          have hhe := adds_he ao (show (c.add p u).He p = some u from add_he)
          have hf : (adds (c.add p u) as).F p := adds_f (.inr rfl)
          have hu2 : H2 p = some u := S2.ext p u (S2.fd p hf).2 hhe (o.nt hu)
          have o1 : OwnAt (gd X) H1 (Off (c.add p u) hs1 w1.own oa) sv p := o.keep (.less fun a z => (off_add a).mp z) fun u e _ => e
          have o2 : OwnAt (gd X) H2 (Off (adds (c.add p u) as) hs2 w'.own oa) sv p := o1.keep k2 fun u' e _ => by rw [hu] at e; cases e; exact hu2
          refine q _ H2 hs2 ((p, u) :: as) S2 ⟨g1, g2, ao⟩ ⟨p, u, vs, as, rfl, rfl, o2, hv⟩ ?_ (x1.pre.trans p2)
          refine Keep.trans ?_ k2
          refine ⟨k1.same, k1.tup, k1.frz, fun a v n e z => ?_, k1.tbl, k1.tb⟩
          rcases (off_add a).mp z with z | z
          · exact k1.out a v n e z
          · subst z; rw [hp] at e; cases e
      · cases e
    · cases e
/-! ### all names at once -/
def parS : List Nat → List (SV × Bool) → Slots → W → Slots × W
  | i :: is, (sv, b) :: ss, sl, w => (((parS is ss sl w).1.set i (some sv)), { (parS is ss sl w).2 with own := if b = true then i :: (parS is ss sl w).2.own.erase i else (parS is ss sl w).2.own.erase i })
  | _, _, sl, w => (sl, w)
def parV : List Nat → List V → L2.St → L2.St
  | i :: is, v :: vs, σ => (parV is vs σ).set i (some v)
  | _, _, σ => σ
theorem parS_length : ∀ {is : List Nat} {ss : List (SV × Bool)} {sl : Slots} {w : W}, (parS is ss sl w).1.length = sl.length
  | [], _, _, _ => by simp [parS]
  | _ :: _, [], _, _ => by simp [parS]
  | i :: is, (sv, b) :: ss, sl, w => by simp only [parS, List.length_set]; exact parS_length
theorem hold_sets {G : Gd} {hs : List Addr} {H : Hp} : ∀ {is : List Nat} {ss : List (SV × Bool)} {as : List (Addr × HO)} {vs : List V} {c : Cn} {oa : Nat → Addr} {sl : Slots} {w : W} {σ : L2.St}, is.length = ss.length → (∀ i, i ∈ is → i < sl.length) → SRel G (adds c as) hs oa sl w σ H → AddsOk c as →
    HV G H hs (Off (adds c as) hs w.own oa) as ss vs → ∃ oa', SRel G c hs oa' (parS is ss sl w).1 (parS is ss sl w).2 (parV is vs σ) H ∧ ∀ a, Off c hs (parS is ss sl w).2.own oa' a → Off (adds c as) hs w.own oa a
  | [], [], as, vs, c, oa, sl, w, σ, _, _, S, _, hv => by
    obtain ⟨rfl, rfl⟩ := hv
    exact ⟨oa, S, fun a z => z⟩
  | i :: is, (sv, b) :: ss, as, vs, c, oa, sl, w, σ, hl, hi, S, ao, hv => by
    have hl' : is.length = ss.length := by simpa using hl
    cases b with
    | false =>
      obtain ⟨v, r, rfl, r1, hv⟩ := hv
      obtain ⟨oa1, S1, less⟩ := hold_sets hl' (fun j hj => hi j (List.mem_cons_of_mem _ hj)) S ao hv
      refine ⟨oa1, S1.set (r1.keep (.less fun a z => less a (off_erase a z)) (List.prefix_refl _)), fun a z => less a (off_erase a z)⟩
    | true =>
      obtain ⟨p, u, r, as', rfl, rfl, o, hv⟩ := hv
      obtain ⟨g1, g2, ao'⟩ := ao
      obtain ⟨oa1, S1, less⟩ := hold_sets (c := c.add p u) hl' (fun j hj => hi j (List.mem_cons_of_mem _ hj)) S ao' hv
      have o1 : OwnAt G H (Off (c.add p u) hs (parS is ss sl w).2.own oa1) sv p := o.keep (.less less) fun u e _ => e
      obtain ⟨oa2, S2, less2⟩ := S1.setHold (i := i) (by rw [parS_length]; exact hi i List.mem_cons_self) g1 g2 o1
      exact ⟨oa2, S2, fun a z => less a (less2 a z)⟩
/-- a, b, .. = x, y, .. -/
def sPar (is : List Nat) (fs : List Ex) : Sx := fun sl w => match evO fs sl w with
  | some (ss, w1) => if is.length = ss.length ∧ (∀ i, i ∈ is → i < sl.length) then some (.nx, (parS is ss sl w1).1, (parS is ss sl w1).2) else none
  | none => none
theorem tS_par {G : Gd} {is : List Nat} {fs : List Ex} {D : Ends} {σ : L2.St} {H : Hp} (h : tS G (sPar is fs) D σ H) : tO G fs σ H fun vs H1 => vs.length = is.length ∧ ∀ H2, Same H1 H2 → D.nx (parV is vs σ) H2 := by
  obtain ⟨c, hs, oa, sl, w, o, sl', w', S, e, q⟩ := h
  unfold sPar at e
  split at e
  · rename_i ss w1 e1
    split at e
    · rename_i hc
      cases e
      refine ⟨c, hs, oa, sl, w, ss, w1, S, e1, fun vs H1 hs1 as S1 ao hv k1 p1 => ⟨by rw [hv.length, hc.1], fun H2 sm => ?_⟩⟩
      obtain ⟨oa2, S2, less⟩ := hold_sets hc.1 hc.2 S1 ao hv
      exact q _ H2 hs1 oa2 (S2.grow sm) ((k1.trans (.less less)).trans (.grow sm))
    · cases e
  · cases e
theorem pS_par2 {X : Cx} {i j : Nat} {x y : Str} {a b : Expr} {fs : List Ex} {px py pt pos : Pos} {kt k2 pt2} (hc : X.calm = true) (hN : X.N.Nodup) (hi : X.N[i]? = some x) (hj : X.N[j]? = some y) (hij : i ≠ j)
    (hx : X.env.scope.names.lookup x = some .local) (hy : X.env.scope.names.lookup y = some .local) (ha : PA X [a, b] (tO (gd X) fs))
    (hw : swappedStores [.Tuple [.Name x px, .Name y py] kt pt] (.Tuple [a, b] k2 pt2) X.env = pure (some [x, y]))
    (hs : swapsWithSole [.Tuple [.Name x px, .Name y py] kt pt] (.Tuple [a, b] k2 pt2) pos.line X.env = pure false) :
    PS X (.Assign [.Tuple [.Name x px, .Name y py] kt pt] (.Tuple [a, b] k2 pt2) pos) (tS (gd X) (sPar [i, j] fs)) := (ps_par hc hN hi hj hij hx hy ha hw hs).imp fun D σ H h => by
  obtain ⟨c, hs, oa, sl, w, ss, w', S, e, q⟩ := tS_par h
  refine ⟨c, hs, oa, sl, w, ss, w', S, e, fun vs H1 hs1 as S1 ao hv k1 p1 => ?_⟩
  obtain ⟨hl, q⟩ := q vs H1 hs1 as S1 ao hv k1 p1
  match vs, hl with
  | [v, u], _ =>
    refine ⟨v, u, rfl, ?_⟩
    rw [List.set_comm _ _ hij]
    exact q H1 (Same.refl _)
theorem pS_par3 {X : Cx} {i j l : Nat} {x y z : Str} {a b d : Expr} {fs : List Ex} {px py pz pt pos : Pos} {kt k2 pt2} (hc : X.calm = true) (hN : X.N.Nodup) (hi : X.N[i]? = some x) (hj : X.N[j]? = some y) (hl : X.N[l]? = some z) (hij : i ≠ j) (hil : i ≠ l) (hjl : j ≠ l)
    (hx : X.env.scope.names.lookup x = some .local) (hy : X.env.scope.names.lookup y = some .local) (hz : X.env.scope.names.lookup z = some .local) (ha : PA X [a, b, d] (tO (gd X) fs))
    (hw : swappedStores [.Tuple [.Name x px, .Name y py, .Name z pz] kt pt] (.Tuple [a, b, d] k2 pt2) X.env = pure (some [x, y, z]))
    (hs : swapsWithSole [.Tuple [.Name x px, .Name y py, .Name z pz] kt pt] (.Tuple [a, b, d] k2 pt2) pos.line X.env = pure false) :
    PS X (.Assign [.Tuple [.Name x px, .Name y py, .Name z pz] kt pt] (.Tuple [a, b, d] k2 pt2) pos) (tS (gd X) (sPar [i, j, l] fs)) := (ps_par3 hc hN hi hj hl hij hil hjl hx hy hz ha hw hs).imp fun D σ H h => by
  obtain ⟨c, hs, oa, sl, w, ss, w', S, e, q⟩ := tS_par h
  refine ⟨c, hs, oa, sl, w, ss, w', S, e, fun vs H1 hs1 as S1 ao hv k1 p1 => ?_⟩
  obtain ⟨hl, q⟩ := q vs H1 hs1 as S1 ao hv k1 p1
  match vs, hl with
  | [v, u, t], _ =>
    refine ⟨v, u, t, rfl, ?_⟩
    have ee : ((σ.set i (some v)).set j (some u)).set l (some t) = parV [i, j, l] [v, u, t] σ := by
      show _ = ((σ.set l (some t)).set j (some u)).set i (some v)
      rw [List.set_comm _ _ hij, List.set_comm _ _ hil, List.set_comm _ _ hjl]
    rw [ee]
    exact q H1 (Same.refl _)
/-! ### by a tuple that is made and taken apart -/
inductive Names (X : Cx) : List Expr → List Nat → Prop
  | nil : Names X [] []
  | cons {x : Str} {p : Pos} {es : List Expr} {i : Nat} {is : List Nat} : PG X (.Name x p) (gName i) → (assignEach (.Name x p :: es) X.env).map (·.2) = assign (.Name x p) X.env :: (assignEach es X.env).map (·.2) → i ∉ is → Names X es is → Names X (.Name x p :: es) (i :: is)
def gSets (is : List Nat) : TGs := fun vs σ H Q => vs.length = is.length ∧ Q (parV is vs σ) H
theorem parV_set {i : Nat} {v : V} : ∀ {is : List Nat} {vs : List V} {σ : L2.St}, i ∉ is → (parV is vs (σ.set i (some v))) = (parV is vs σ).set i (some v)
  | [], _, _, _ => by simp [parV]
  | _ :: _, [], _, _ => by simp [parV]
  | j :: is, u :: vs, σ, h => by
    rw [List.mem_cons, not_or] at h
    show (parV is vs (σ.set i (some v))).set j (some u) = ((parV is vs σ).set j (some u)).set i (some v)
    rw [parV_set h.2, List.set_comm _ _ h.1]
theorem pgs_names {X : Cx} : ∀ {es : List Expr} {is : List Nat}, Names X es is → PGs X es (gSets is)
  | _, _, .nil => pgs_nil.imp fun vs σ H Q h => by
    obtain ⟨h1, h2⟩ := h
    cases vs with
    | nil => exact ⟨rfl, h2⟩
    | cons _ _ => simp at h1
  | _, _, .cons (i := i) (is := is) h1 hs hn hr => (pgs_cons h1 (pgs_names hr) hs).imp fun vs σ H Q h => by
    obtain ⟨h1, h2⟩ := h
    cases vs with
    | nil => simp at h1
    | cons v r =>
      refine ⟨v, r, rfl, by simpa using h1, ?_⟩
      rw [parV_set hn]
      exact h2
theorem pS_parT {X : Cx} {es ts : List Expr} {is : List Nat} {fs : List Ex} {kt k2 : Nat} {pt pt2 pos : Pos} (hc : X.calm = true) (hn : Names X ts is) (ha : PA X es (tO (gd X) fs)) (hz : is.length ≤ 1000)
    (hs : swapsWithSole [.Tuple ts kt pt] (.Tuple es k2 pt2) pos.line X.env = pure false) (hw : swappedStores [.Tuple ts kt pt] (.Tuple es k2 pt2) X.env = pure none) (h1 : (assignEach [.Tuple ts kt pt] X.env).map (·.2) = [assign (.Tuple ts kt pt) X.env])
    (hl : (assignEach ts X.env).length = is.length) (hst : (assignEach ts X.env).findIdx? (·.1) = none) :
    PS X (.Assign [.Tuple ts kt pt] (.Tuple es k2 pt2) pos) (tS (gd X) (sPar is fs)) := (ps_asg (pe_tup ha) (pg_tup hc (pgs_names hn) hl hst) hs hw h1).imp fun D σ H h => by
  obtain ⟨c, hs, oa, sl, w, ss, w', S, e, q⟩ := tS_par h
  refine ⟨c, hs, oa, sl, w, ss, w', S, e, fun vs H1 hs1 as S1 ao hv k1 p1 => ?_⟩
  obtain ⟨hl, q⟩ := q vs H1 hs1 as S1 ao hv k1 p1
  refine ⟨by have : (1000 : Nat) ≤ sizeLine := by decide
             omega, fun p hp => ⟨p, vs, rfl, .inl (.inl upd_same), hl, hl, q _ (same_new hp)⟩⟩
end PI
/-! PI20: defs and calls. -/
namespace PI
open PySem PySem.Spec L2

/-- what a def does: the arguments and the handles' lists; what it hands back, the handles' lists behind it -/
abbrev Fn := List SV → List (List Int) → Option ((SV × Bool) × List (List Int))
def spF (G : Gd) (n : Nat) (F : Fn) : Sp := fun vs H Q _ => ∃ (hs : List Addr) (F0 : Addr → Prop) (args : List SV) (sto : List (List Int)) (r : SV) (b : Bool) (sto' : List (List Int)), vs.length = n ∧ HsOk H hs sto ∧ Tb H ∧ hs.Nodup ∧ (∀ a, F0 a → (∃ u, H a = some u) ∧ a ∉ hs) ∧
  RepL G H hs (fun a => F0 a ∨ a ∈ hs) args vs ∧ F args sto = some ((r, b), sto') ∧ ∀ v H' hs', Ext hs H hs' H' → HsOk H' hs' sto' → hs'.Nodup → RetR G ⟨H, F0, hs⟩ H' hs' r b v → Q v H'
/-- a def by its body: n parameters, N names -/
def bodyFn (n N : Nat) (f : Sx) : Fn := fun args sto => if args.length = n then (match f (args.map some ++ List.replicate (N - n) none) ⟨[], sto⟩ with
  | some (.rt sv b, _, w) => some ((sv, b), w.sto)
  | some (.nx, _, w) => some ((.d .none, false), w.sto)
  | _ => none) else none
section
variable {G : Gd} {H : Hp} {hs : List Addr} {F0 : Addr → Prop}
theorem repL_get {O : Addr → Prop} : ∀ {args : List SV} {vs : List V} {i : Nat} {sv : SV}, RepL G H hs O args vs → args[i]? = some sv → ∃ v, vs[i]? = some v ∧ RepS G H hs O sv v
  | [], _, _, _, _, e => by simp at e
  | s :: ss, _, 0, sv, ⟨v, r, e, h1, h2⟩, e2 => by simp at e2; subst e2; exact ⟨v, by rw [e]; rfl, h1⟩
  | s :: ss, _, i + 1, sv, ⟨v, r, e, h1, h2⟩, e2 => by
    obtain ⟨z, e3, h3⟩ := repL_get (i := i) h2 (by simpa using e2)
    exact ⟨z, by rw [e]; simpa using e3, h3⟩
/-- a def's start -/
theorem srel_start {args : List SV} {vs : List V} {sto : List (List Int)} {N : List Str} {n : Nat} (hl : vs.length = n) (h1 : HsOk H hs sto) (hT : Tb H) (h2 : hs.Nodup) (h3 : ∀ a, F0 a → (∃ u, H a = some u) ∧ a ∉ hs) (h4 : RepL G H hs (fun a => F0 a ∨ a ∈ hs) args vs) :
    SRel G ⟨H, F0, hs⟩ hs (fun _ => 0) (args.map some ++ List.replicate (N.length - n) none) ⟨[], sto⟩ (L2.start N vs) H := by
  have hal : args.length = vs.length := h4.length
  refine ⟨by unfold L2.start; rw [List.length_append, List.length_append, List.length_map, List.length_map, List.length_replicate, List.length_replicate, hal, hl], fun i sv e _ => ?_, fun i hi => (nomatch hi), fun i hi => (nomatch hi), fun i hi => (nomatch hi), List.nodup_nil, h1, h2, fun i hi => (nomatch hi), h3, fun a u _ e _ => e, fun a ha => .inl ha, List.prefix_refl _, fun a ps e => ⟨ps, e⟩, hT⟩
  have hi : i < args.length := by
    apply Decidable.byContradiction
    intro hi
    rw [List.getElem?_append_right (by rw [List.length_map]; omega), List.getElem?_replicate] at e
    split at e <;> cases e
  rw [List.getElem?_append_left (by rw [List.length_map]; exact hi), List.getElem?_map] at e
  have e' : args[i]? = some sv := by
    cases q : args[i]? with
    | none => rw [q] at e; cases e
    | some z => rw [q] at e; cases e; rfl
  obtain ⟨v, e2, r⟩ := repL_get h4 e'
  refine ⟨v, ?_, r.keep (.less fun a z => ?_) (List.prefix_refl _)⟩
  · unfold L2.start
    rw [List.getElem?_append_left (by rw [List.length_map]; omega), List.getElem?_map, e2]; rfl
  · rcases z with z | z | ⟨j, hj, _⟩
    · exact .inl z
    · exact .inr z
    · cases hj
/-- a def's end -/
theorem ext_end {oa : Nat → Addr} {sl : Slots} {w : W} {σ : L2.St} {H' : Hp} {hs' : List Addr} {sto : List (List Int)} (h1 : HsOk H hs sto) (S : SRel G ⟨H, F0, hs⟩ hs' oa sl w σ H') : Ext hs H hs' H' := by
  have out : ∀ a u, a ∉ hs → H a = some u → a ∉ hs' := fun a u n e z => by
    rcases S.h0 a z with z | z
    · exact n z
    · rw [show H a = none from z] at e; cases e
  have no : ∀ a, a ∈ hs → ∃ ns : List Int, H a = some (.lst (ns.map V.int)) := fun a ha => h1.at_ ha
  refine ⟨fun a u n e t => S.ext a u (out a u n e) e t, S.hpre, fun a ha => S.h0 a ha, fun a xs e => ?_, fun a o xs e => ?_, S.tbl, fun _ => S.tb⟩
  · refine S.ext a _ (out a _ (fun z => ?_) e) e (fun _ z => nomatch z)
    obtain ⟨ns, q⟩ := no a z
    rw [e] at q; cases q
  · refine S.ext a _ (out a _ (fun z => ?_) e) e (fun _ z => nomatch z)
    obtain ⟨ns, q⟩ := no a z
    rw [e] at q; cases q
/-- the body's reading answers the promise -/
theorem body_ok {f : Sx} {N : List Str} {n : Nat} {vs : List V} {Q : VK} {E : XK} (h : spF G n (bodyFn n N.length f) vs H Q E) : tS G f { nx := fun _ H' => Q .non H', rt := Q } (L2.start N vs) H := by
  obtain ⟨hs, F0, args, sto, r, b, sto', hl, h1, hT, h2, h3, h4, e, q⟩ := h
  unfold bodyFn at e
  split at e
  · rename_i hal
    have S0 : SRel G ⟨H, F0, hs⟩ hs (fun _ => 0) (args.map some ++ List.replicate (N.length - n) none) ⟨[], sto⟩ (L2.start N vs) H := srel_start (n := n) hl h1 hT h2 h3 h4
    split at e
    · rename_i sv b2 sl' w' e1
      cases e
      exact ⟨_, hs, _, _, _, _, sl', w', S0, e1, fun σ' H' hs' oa' S' k v rr => q v H' hs' (ext_end h1 S') S'.sto S'.hnd rr⟩
    · rename_i sl' w' e1
      cases e
      refine ⟨_, hs, _, _, _, _, sl', w', S0, e1, fun σ' H' hs' oa' S' k => q .non H' hs' (ext_end h1 S') S'.sto S'.hnd ?_⟩
      unfold RetR
      rw [if_neg Bool.false_ne_true]
      show Rep _ _ _ _ _
      rw [Rep]
    · cases e
  · cases e
end

/-! ### a call -/
def xCall (F : Fn) (fs : List Ex) : Ex := fun sl w => match evL fs sl w with
  | some (ss, w1) => (match F ss w1.sto with
    | some (r, sto') => some (r, { w1 with sto := sto' })
    | none => none)
  | none => none
section
variable {G : Gd} {c : Cn} {hs hs' hs2 : List Addr} {oa : Nat → Addr} {sl : Slots} {w w' : W} {σ : L2.St} {H H' H2 : Hp}
/-- behind a call -/
theorem SRel.called {sto' : List (List Int)} (S : SRel G c hs oa sl w σ H) (x : Ext hs H hs' H') (h1 : HsOk H' hs' sto') (h2 : hs'.Nodup) : SRel G c hs' oa sl { w with sto := sto' } σ H' := by
  have k : Keep (Off c hs w.own oa) H (Off c hs' w.own oa) H' := x.keep (w := w) (w' := w) Sub.refl
  have off : ∀ a u, H a = some u → a ∉ hs → a ∉ hs' := fun a u e n z => (x.new a z).elim n fun q => by rw [q] at e; cases e
  refine ⟨S.len, fun i sv e n => ?_, fun i hi => ?_, S.inj, S.new, S.nd, h1, h2, fun i hi => ?_, fun a z => ?_, fun a u n e t => ?_, fun a ha => ?_, S.hpre.trans x.pre, fun a ps e => ?_, x.tb S.tb⟩
  · obtain ⟨v, e1, r⟩ := S.slot i sv e n
    exact ⟨v, e1, r.keep k x.pre⟩
  · obtain ⟨sv, e1, e2, o⟩ := S.owns i hi
    exact ⟨sv, e1, e2, o.keep k fun u e t => x.same _ u (S.hown i hi) e t⟩
  · obtain ⟨u, e⟩ := S.some_own hi
    exact off _ u e (S.hown i hi)
  · obtain ⟨hu, n⟩ := S.fd a z
    obtain ⟨u, e⟩ := S.off_some (.inl z)
    exact ⟨hu, off a u e n⟩
  · have n1 : a ∉ hs := fun z => n (x.pre.subset z)
    exact x.same a u n1 (S.ext a u n1 e t) t
  · rcases x.new a ha with z | z
    · exact S.h0 a z
    · exact .inr (He_none S z).1
  · obtain ⟨qs, q⟩ := S.tbl a ps e
    exact x.tbl a qs q
theorem tE_call {F : Fn} {fs : List Ex} {E : XK} {σ : L2.St} {H : Hp} {Q : VK} (h : tE G (xCall F fs) σ H Q) : tL G fs σ H fun vs H1 => spF G fs.length F vs H1 Q E := by
  obtain ⟨c, hs, oa, sl, w, sv, b, w', S, e, q⟩ := h
  unfold xCall at e
  split at e
  · rename_i ss w1 e1
    split at e
    · rename_i r sto' e2
      cases e
      refine ⟨c, hs, oa, sl, w, ss, w1, S, e1, fun vs H1 hs1 S1 x1 sb1 r1 => ?_⟩
      have hF : ∀ a, (c.F a ∨ ∃ i, i ∈ w1.own ∧ oa i = a) → (∃ u, H1 a = some u) ∧ a ∉ hs1 := fun a z => by
        rcases z with z | ⟨i, hi, rfl⟩
        · exact ⟨S1.off_some (.inl z), (S1.fd a z).2⟩
        · exact ⟨S1.some_own hi, S1.hown i hi⟩
      have kk : Keep (Off c hs1 w1.own oa) H1 (fun a => (c.F a ∨ ∃ i, i ∈ w1.own ∧ oa i = a) ∨ a ∈ hs1) H1 := .less fun a z => by
        rcases z with (z | z) | z
        · exact .inl z
        · exact .inr (.inr z)
        · exact .inr (.inl z)
      refine ⟨hs1, fun a => c.F a ∨ ∃ i, i ∈ w1.own ∧ oa i = a, ss, w1.sto, sv, b, sto', by rw [← r1.length, evL_length e1], S1.sto, S1.tb, S1.hnd, hF, r1.keep kk (List.prefix_refl _), e2, fun v H2 hs2 x2 hk hn rr => ?_⟩
      refine q v H2 hs2 (S1.called x2 hk hn) (x1.trans x2) sb1 ?_
      have less : ∀ a, Off c hs2 w1.own oa a → (c.F a ∨ ∃ i, i ∈ w1.own ∧ oa i = a) ∨ a ∈ hs2 := fun a z => by
        rcases z with z | z | z
        · exact .inl (.inl z)
        · exact .inr z
        · exact .inl (.inr z)
      unfold ResE
      unfold RetR at rr
      split
      · rename_i hb
        rw [if_pos hb] at rr
        obtain ⟨p, rfl, hp, hh, o⟩ := rr
        refine ⟨p, rfl, x1.none_back S hp (fun z => hh (x2.pre.subset z)), hh, o.keep (.less fun a z => ?_) fun u e _ => e⟩
        rcases z with z | z
        · exact .inl (less a z)
        · exact .inr z
      · rename_i hb
        rw [if_neg hb] at rr
        exact rr.keep (.less less) (List.prefix_refl _)
    · cases e
  · cases e
end
/-- a def of the module that does F -/
structure Callee (P : Program) (w : World) (K : PySem.W.Frag) (mg : Str → Option Value) (base : Heap) (x : Str) (k n : Nat) (F : Fn) : Prop where
  ex : ∃ (f : Addr) (fd : FuncData) (ps : List Str), mg x = some (.ref f) ∧ PySem.W.keepIn K (.ref f) = true ∧ Binds K fd ps [] ∧ ps.length = n ∧ FnOk P w K mg base (fun _ _ _ _ _ _ => False) k f fd ps (spF ⟨K, P, w, mg⟩ n F)
theorem Callee.mono {P : Program} {w : World} {K : PySem.W.Frag} {mg : Str → Option Value} {base : Heap} {x : Str} {j k n : Nat} {F : Fn} (c : Callee P w K mg base x j n F) (h : j ≤ k) : Callee P w K mg base x k n F := by
  obtain ⟨f, fd, ps, h1, h2, h3, h4, h5⟩ := c.ex
  exact ⟨f, fd, ps, h1, h2, h3, h4, h5.mono h⟩
theorem Callee.imp {P : Program} {w : World} {K : PySem.W.Frag} {mg : Str → Option Value} {base : Heap} {x : Str} {k n : Nat} {F F' : Fn} (c : Callee P w K mg base x k n F) (h : ∀ args sto r, F' args sto = some r → F args sto = some r) : Callee P w K mg base x k n F' := by
  obtain ⟨f, fd, ps, h1, h2, h3, h4, h5⟩ := c.ex
  refine ⟨f, fd, ps, h1, h2, h3, h4, h5.imp fun vs H Q E q => ?_⟩
  obtain ⟨hs, F0, args, sto, r, b, sto', a1, a2, a3, a4, a5, a6, a7, a8⟩ := q
  exact ⟨hs, F0, args, sto, r, b, sto', a1, a2, a3, a4, a5, a6, h _ _ _ a7, a8⟩
theorem pE_call {X : Cx} {x : Str} {k : Nat} {F : Fn} {fs : List Ex} {e : Expr} {es : List Expr} {p pos : Pos} (C : Callee X.prog X.w X.K X.mg X.base x k fs.length F) (hr : Room k X.A) (hg : Gl X x) (ha : PA X (e :: es) (tL (gd X) fs)) (hdb : (x == ("__debug__" : Str)) = false)
    (he : starEach (e :: es) X.env = (false, eval e X.env) :: starEach es X.env) (hpl : (backTo pos (starEach es X.env)).any (·.1) = false) : PE X (.Call (.Name x p) (e :: es) [] pos) (tE (gd X) (xCall F fs)) := by
  obtain ⟨f, fd, ps, hm, hk, hb, hl, hF⟩ := C.ex
  refine (pe_call (E := fun _ _ _ => False) (dvs := []) hF hr hg hm hk hb .nil (fun _ _ _ _ _ _ _ z => z.elim) ha hdb he hpl).imp fun σ H Q h => ?_
  show tL (gd X) fs σ H fun vs H1 => spF (gd X) fs.length F (vs ++ []) H1 Q fun _ _ _ => False
  have e0 : (fun (vs : List V) (H1 : Hp) => spF (gd X) fs.length F (vs ++ []) H1 Q fun _ _ _ => False) = fun vs H1 => spF (gd X) fs.length F vs H1 Q fun _ _ _ => False := by
    funext vs H1
    rw [List.append_nil]
  rw [e0]
  exact tE_call h
/-- a call of a name that holds a def -/
def xCallV (k : Nat) (cs : List (Str × Fn)) (fs : List Ex) : Ex := fun sl w => match sl[k]? with
  | some (some (.f x)) => (match cs.lookup x with
    | some F => xCall F fs sl w
    | none => none)
  | _ => none
theorem pe_ex {X : Cx} {e : Expr} {ι : Type} {t : ι → TE} (h : ∀ i, PE X e (t i)) : PE X e (fun σ H Q => ∃ i, t i σ H Q) := ⟨fun pins s σ H Q I ⟨i, q⟩ => (h i).run pins s σ H Q I q⟩
theorem pE_callV {X : Cx} {x : Str} {i k : Nat} {cs : List (Str × Fn)} {fs : List Ex} {e : Expr} {es : List Expr} {p pos : Pos} (C : ∀ y F, cs.lookup y = some F → Callee X.prog X.w X.K X.mg X.base y k fs.length F) (hr : Room k X.A) (hN : X.N[i]? = some x) (hv : Vis X.env.scope x) (ha : PA X (e :: es) (tL (gd X) fs))
    (hdb : (x == ("__debug__" : Str)) = false) (hcd : (x == ("__classdict__" : Str)) = false) (he : starEach (e :: es) X.env = (false, eval e X.env) :: starEach es X.env) (hpl : (backTo pos (starEach es X.env)).any (·.1) = false) : PE X (.Call (.Name x p) (e :: es) [] pos) (tE (gd X) (xCallV i cs fs)) := by
  have each : ∀ z : { y : Str × Fn // cs.lookup y.1 = some y.2 }, PE X (.Call (.Name x p) (e :: es) [] pos) (fun σ H Q => ∃ f, X.mg z.1.1 = some (.ref f) ∧ σ[i]? = some (some (.ref f)) ∧ tL (gd X) fs σ H fun vs H1 => spF (gd X) fs.length z.1.2 vs H1 Q fun _ _ _ => False) := fun ⟨⟨y, F⟩, hy⟩ => by
    obtain ⟨f, fd, ps, hm, hk, hb, hl, hF⟩ := (C y F hy).ex
    refine (pe_callL (i := i) (E := fun _ _ _ => False) (dvs := []) hF hr hN hv hk hb .nil (fun _ _ _ _ _ _ _ z => z.elim) ha hdb hcd he hpl).imp fun σ H Q h => ?_
    obtain ⟨f', hm', h1, h2⟩ := h
    rw [show X.mg y = some (.ref f) from hm] at hm'
    cases hm'
    refine ⟨h1, ?_⟩
    have e0 : (fun (vs : List V) (H1 : Hp) => spF (gd X) fs.length F (vs ++ []) H1 Q fun _ _ _ => False) = fun vs H1 => spF (gd X) fs.length F vs H1 Q fun _ _ _ => False := by
      funext vs H1
      rw [List.append_nil]
    show tL (gd X) fs σ H fun vs H1 => spF (gd X) fs.length F (vs ++ []) H1 Q fun _ _ _ => False
    rw [e0]
    exact h2
  refine (pe_ex each).imp fun σ H Q h => ?_
  obtain ⟨c, hs, oa, sl, w, sv, b, w', S, e, q⟩ := h
  unfold xCallV at e
  split at e
  · rename_i y e1
    split at e
    · rename_i F e2
      have hk : i ∉ w.own := fun hk => by
        obtain ⟨sv, e3, _, o⟩ := S.owns i hk
        rw [e1] at e3; cases e3
        exact o.elim
      obtain ⟨v, e3, u, r1, r2⟩ := S.slot i _ e1 hk
      obtain ⟨f, fd, ps, hm, _⟩ := (C y F e2).ex
      rw [show (gd X).mg y = some (.ref f) from hm] at r1
      cases r1
      have hv : v = .ref f := by
        cases v with
        | ref a => cases (show Value.ref f = Value.ref a from r2); rfl
        | non => cases r2
        | bl b => cases r2
        | int i => obtain ⟨t, z⟩ := r2; cases z
        | str x => obtain ⟨t, z⟩ := r2; cases z
        | byt x => obtain ⟨t, z⟩ := r2; cases z
        | flt x => obtain ⟨t, z⟩ := r2; cases z
        | ty x => cases r2
      subst hv
      exact ⟨⟨⟨y, F⟩, e2⟩, f, hm, e3, tE_call ⟨c, hs, oa, sl, w, sv, b, w', S, e, q⟩⟩
    · cases e
  · cases e
theorem kds_of_code {K : PySem.W.Frag} {cd : Value} {q : Str} (h : PySem.W.codeIn K cd q = true) : PySem.W.kdsCode K cd = true := by
  unfold PySem.W.codeIn at h
  split at h
  · split at h
    · rename_i e
      unfold PySem.W.kdsCode
      simp only [e]
    · cases h
  · cases h
/-- THE RULE: a def does what its body's reading does -/
theorem callee_of {P : Program} {w : World} {K : PySem.W.Frag} {mg : Str → Option Value} {base : Heap} {y x qual : Str} {params : Arguments} {body : List Stmt} {scope : Scope} {f : Addr} {fd : FuncData} {N ps : List Str} {k n : Nat} {b : Sx} (F : FunD K x qual params body scope [] [] f fd) (S : FnScope N ps scope) (hm : mg y = some (.ref f)) (hb : Binds K fd ps []) (hl : ps.length = n)
    (h : ∀ (cdv : Value) (A : Around) (outer : List Env) (s : Shared) (H : Hp) (E : XK), PySem.W.kdsCode K cdv = true → Room k (A.deeper (PyProof.Rows.envOfC qual scope s.heap.objs.size f cdv)) → PSs (cxOf (fun _ _ _ _ _ _ => False) P w K mg base N qual scope f cdv A outer s H E).nox body (tS ⟨K, P, w, mg⟩ b)) :
    Callee P w K mg base y (k + 1) n (bodyFn n N.length b) := by
  obtain ⟨oc, od, dV, kV, doc, pm, an, cdv, ct, osl, e, lk, hcd, _, _⟩ := F.ex
  refine ⟨f, fd, ps, hm, F.kp, hb, hl, ?_⟩
  subst e
  exact fn_of lk hcd S (fun vs H Q E q => by obtain ⟨_, _, _, _, _, _, _, q, _⟩ := q; rw [q, hl]) fun A outer s H vs Q E hr q => ⟨_, (h cdv A outer s H E (kds_of_code hcd) hr).nox, body_ok q⟩
end PI
/-! PI21: built-in functions. -/
namespace PI
open PySem PySem.Spec L2

def RepRL (G : Gd) (H : Hp) (hs : List Addr) (O : Addr → Prop) : List SV → List V → Prop
  | [], vs => vs = []
  | s :: ss, vs => ∃ v r, vs = v :: r ∧ RepR G H hs O s v ∧ RepRL G H hs O ss r
def evRL : List Rx → Slots → W → Option (List SV × W)
  | [], _, w => some ([], w)
  | f :: fs, sl, w => match f sl w with
    | some (sv, w1) => (match evRL fs sl w1 with
      | some (ss, w2) => some (sv :: ss, w2)
      | none => none)
    | none => none
def tRL (G : Gd) (fs : List Rx) : TA := fun σ H Q => ∃ c hs oa sl w ss w', SRel G c hs oa sl w σ H ∧ evRL fs sl w = some (ss, w') ∧
  ∀ vs H' hs', SRel G c hs' oa sl w' σ H' → Ext hs H hs' H' → Sub w' w → RepRL G H' hs' (Off c hs' w'.own oa) ss vs → Q vs H'
theorem pRL_nil {X : Cx} : PA X [] (tRL (gd X) []) := pa_nil.imp fun σ H Q h => by
  obtain ⟨c, hs, oa, sl, w, ss, w', S, e, q⟩ := h
  cases e
  exact q [] H hs S .refl .refl rfl
theorem pRL_cons {X : Cx} {e : Expr} {es : List Expr} {f : Rx} {fs : List Rx} (h1 : PE X e (tR (gd X) f)) (h2 : PA X es (tRL (gd X) fs)) (hst : starEach (e :: es) X.env = (false, eval e X.env) :: starEach es X.env) : PA X (e :: es) (tRL (gd X) (f :: fs)) :=
  (pa_cons h1 h2 hst).imp fun σ H Q h => by
    obtain ⟨c, hs, oa, sl, w, ss, w', S, e, q⟩ := h
    unfold evRL at e
    split at e
    · rename_i sv w1 e1
      split at e
      · rename_i ss2 w2 e2
        cases e
        refine ⟨c, hs, oa, sl, w, _, w1, S, e1, fun v H1 hs1 S1 x1 sb1 r1 => ?_⟩
        refine ⟨c, hs1, oa, sl, w1, ss2, w', S1, e2, fun vs H2 hs2 S2 x2 sb2 r2 => ?_⟩
        exact q _ _ _ S2 (x1.trans x2) (sb1.trans sb2) ⟨v, vs, rfl, r1.keep x2 (x2.keep sb2), r2⟩
      · cases e
    · cases e
/-- what a built-in does with values -/
def CallSem (G : Gd) (o : List SV → List (List Int) → Option (SV × Bool)) (r : List V → Hp → VK → Prop) : Prop := ∀ (H : Hp) (hs : List Addr) (O : Addr → Prop) (sto : List (List Int)) (args : List SV) (vs : List V) (sv : SV) (b : Bool) (Q : VK), HsOk H hs sto → (∀ a, a ∈ hs → ∃ u, H a = some u) → RepRL G H hs O args vs → o args sto = some (sv, b) →
  (∀ v H', Same H H' → ResE G H H' hs O sv b v → Q v H') → r vs H Q
def xBlt (o : List SV → List (List Int) → Option (SV × Bool)) (fs : List Rx) : Ex := fun sl w => match evRL fs sl w with
  | some (ss, w1) => (match o ss w1.sto with
    | some r => some (r, w1)
    | none => none)
  | none => none
theorem tE_blt {G : Gd} {o : List SV → List (List Int) → Option (SV × Bool)} {r : List V → Hp → VK → Prop} (hop : CallSem G o r) {fs : List Rx} {σ : L2.St} {H : Hp} {Q : VK} (h : tE G (xBlt o fs) σ H Q) : tCB r (tRL G fs) σ H Q := by
  obtain ⟨c, hs, oa, sl, w, sv, b, w', S, e, q⟩ := h
  unfold xBlt at e
  split at e
  · rename_i ss w1 e1
    split at e
    · rename_i r2 e2
      cases e
      refine ⟨c, hs, oa, sl, w, ss, w', S, e1, fun vs H1 hs1 S1 x1 sb1 r1 => ?_⟩
      exact hop H1 hs1 _ w'.sto ss vs sv b Q S1.sto (fun a ha => S1.off_some (.inr (.inl ha))) r1 e2 fun v H2 sm rr => q v H2 hs1 (S1.grow sm) (x1.trans (.grow sm)) sb1 (rr.back x1)
    · cases e
  · cases e
theorem pE_bltF {X : Cx} {id : String} {x : Str} {e : Expr} {es : List Expr} {fs : List Rx} {o : List SV → List (List Int) → Option (SV × Bool)} {r : List V → Hp → VK → Prop} {p pos : Pos} (hc : CallR X (.builtin id) r) (hop : CallSem (gd X) o r) (hg : Gl X x) (hm : X.mg x = none) (hv : bootBuiltins x = some (.builtin id)) (ha : PA X (e :: es) (tRL (gd X) fs))
    (hn : x ≠ "__name__") (hdb : (x == ("__debug__" : Str)) = false) (he : starEach (e :: es) X.env = (false, eval e X.env) :: starEach es X.env) (hpl : (backTo pos (starEach es X.env)).any (·.1) = false) : PE X (.Call (.Name x p) (e :: es) [] pos) (tE (gd X) (xBlt o fs)) :=
  (pe_callB hc hg hm hv ha hn hdb he hpl).imp fun σ H Q h => tE_blt hop h
theorem pE_bltT {X : Cx} {T : String} {x : Str} {e : Expr} {es : List Expr} {fs : List Rx} {o : List SV → List (List Int) → Option (SV × Bool)} {r : List V → Hp → VK → Prop} {p pos : Pos} (hc : CallR X (.type T) r) (hop : CallSem (gd X) o r) (hg : Gl X x) (hm : X.mg x = none) (hv : bootBuiltins x = some (.type T)) (ha : PA X (e :: es) (tRL (gd X) fs))
    (hn : x ≠ "__name__") (hdb : (x == ("__debug__" : Str)) = false) (he : starEach (e :: es) X.env = (false, eval e X.env) :: starEach es X.env) (hpl : (backTo pos (starEach es X.env)).any (·.1) = false) : PE X (.Call (.Name x p) (e :: es) [] pos) (tE (gd X) (xBlt o fs)) :=
  (pe_callTy hc hg hm hv ha hn hdb he hpl).imp fun σ H Q h => tE_blt hop h
section
variable {G : Gd} {H : Hp} {hs : List Addr} {O : Addr → Prop}
theorem repRL1 {s : SV} {vs : List V} (h : RepRL G H hs O [s] vs) : ∃ v, vs = [v] ∧ RepR G H hs O s v := by
  obtain ⟨v, r, rfl, h1, h2⟩ := h
  cases (show r = [] from h2)
  exact ⟨v, rfl, h1⟩
theorem repRL2 {s t : SV} {vs : List V} (h : RepRL G H hs O [s, t] vs) : ∃ v u, vs = [v, u] ∧ RepR G H hs O s v ∧ RepR G H hs O t u := by
  obtain ⟨v, r, rfl, h1, h2⟩ := h
  obtain ⟨u, rfl, h3⟩ := repRL1 h2
  exact ⟨v, u, rfl, h1, h3⟩
end

/-! ### numbers -/
def intS : List SV → List (List Int) → Option (SV × Bool)
  | [.d (.int i)], _ => some (.d (.int i), false)
  | [.d (.bool k)], _ => some (.d (.int (if k then 1 else 0)), false)
  | _, _ => none
theorem sem_int {G : Gd} : CallSem G intS (fun xs H Q => (∃ i, xs = [.int i] ∧ Q (.int i) H) ∨ ∃ k, xs = [.bl k] ∧ Q (.int (if k then 1 else 0)) H) := by
  intro H hs O sto args vs sv b Q hk ho hr e q
  unfold intS at e
  split at e
  · cases e
    obtain ⟨v, rfl, r⟩ := repRL1 hr
    exact .inl ⟨_, by rw [repR_int r], q _ _ (Same.refl _) resE_int⟩
  · cases e
    obtain ⟨v, rfl, r⟩ := repRL1 hr
    exact .inr ⟨_, by rw [repR_bool r], q _ _ (Same.refl _) resE_int⟩
  · cases e
def absS : List SV → List (List Int) → Option (SV × Bool)
  | [.d (.int i)], _ => some (.d (.int (if i < 0 then -i else i)), false)
  | _, _ => none
theorem sem_abs {G : Gd} : CallSem G absS (fun xs H Q => ∃ i, xs = [.int i] ∧ Q (.int (if i < 0 then -i else i)) H) := by
  intro H hs O sto args vs sv b Q hk ho hr e q
  unfold absS at e
  split at e
  · cases e
    obtain ⟨v, rfl, r⟩ := repRL1 hr
    exact ⟨_, by rw [repR_int r], q _ _ (Same.refl _) resE_int⟩
  · cases e
def max2S : List SV → List (List Int) → Option (SV × Bool)
  | [.d (.int i), .d (.int j)], _ => some (.d (.int (if j > i then j else i)), false)
  | _, _ => none
theorem sem_max2 {G : Gd} : CallSem G max2S (fun xs H Q => ∃ i j, xs = [.int i, .int j] ∧ Q (.int (if j > i then j else i)) H) := by
  intro H hs O sto args vs sv b Q hk ho hr e q
  unfold max2S at e
  split at e
  · cases e
    obtain ⟨v, u, rfl, r, r2⟩ := repRL2 hr
    exact ⟨_, _, by rw [repR_int r, repR_int r2], q _ _ (Same.refl _) resE_int⟩
  · cases e
def min2S : List SV → List (List Int) → Option (SV × Bool)
  | [.d (.int i), .d (.int j)], _ => some (.d (.int (if j < i then j else i)), false)
  | _, _ => none
theorem sem_min2 {G : Gd} : CallSem G min2S (fun xs H Q => ∃ i j, xs = [.int i, .int j] ∧ Q (.int (if j < i then j else i)) H) := by
  intro H hs O sto args vs sv b Q hk ho hr e q
  unfold min2S at e
  split at e
  · cases e
    obtain ⟨v, u, rfl, r, r2⟩ := repRL2 hr
    exact ⟨_, _, by rw [repR_int r, repR_int r2], q _ _ (Same.refl _) resE_int⟩
  · cases e

/-! ### len -/
def rLenDic (G : Gd) : List V → Hp → VK → Prop := fun xs H Q => ∃ (O : Addr → Prop) (a : Addr) (u : HO) (kvs : List (P × P)) (ks vs : List V), xs = [.ref a] ∧ Rd H a u ∧ DicO G a u kvs ks vs ∧ RepKs G H O kvs ks ∧ kvs.length ≤ sizeLine ∧ Q (.int kvs.length) H
theorem call_lenDic {X : Cx} : CallR X (.builtin "len") (rLenDic (gd X)) := by
  intro pins s σ H xs us Q I r h
  obtain ⟨O, a, u, kvs, ks, vs, rfl, hr, hd, rk, hz, q⟩ := h
  obtain ⟨z, rfl, rz⟩ := vals1 r
  cases (show z = Value.ref a from rz)
  rcases hd with ⟨ls, rfl, e1, e2, e3⟩ | ⟨xs, rfl, e1, e2, e3, e4⟩
  · have hl : kvs.length = ls.length := by have := congrArg List.length e1; simpa using this
    refine d_len I hr fun t s' I' => ⟨.int ls.length, H, I', ⟨t, rfl⟩, ?_⟩
    rw [← hl]; exact q
  · have hl : kvs.length = xs.length := by have := congrArg List.length e1; simpa using this
    obtain ⟨us, un, dd, lo⟩ := dn_at I (.inl hr) (repKs_mem e1 (by rw [← e2]; exact rk)) e4
    have hl2 : xs.length = us.length := Paired.length un
    refine PySem.call_len_dictH lo dd (by rw [← hl2, ← hl]; have := line63; omega) ?_
    refine ⟨.int kvs.length, H, I.tok _, ⟨_, by rw [hl, hl2]⟩, q⟩
def lenS : List SV → List (List Int) → Option (SV × Bool)
  | [.d (.list ps)], _ => some (.d (.int ps.length), false)
  | [.d (.tuple ps)], _ => some (.d (.int ps.length), false)
  | [.d (.dict kvs)], _ => if kvs.length ≤ sizeLine then some (.d (.int kvs.length), false) else none
  | [.h n], sto => (match sto[n]? with
    | some ns => some (.d (.int ns.length), false)
    | none => none)
  | [.z ns], _ => some (.d (.int ns.length), false)
  | _, _ => none
theorem sem_len {G : Gd} : CallSem G lenS (fun xs H Q => (∃ x n, xs = [x] ∧ LenV G.K x H n ∧ Q (.int n) H) ∨ rLenDic G xs H Q) := by
  intro H hs O sto args vs sv b Q hk ho hr e q
  unfold lenS at e
  split at e
  · cases e
    obtain ⟨v, rfl, r⟩ := repRL1 hr
    obtain ⟨a, xs, rfl, ta, ra⟩ := repR_list r
    exact .inl ⟨_, xs.length, rfl, .inl ⟨xs, .inl (.inl ta), rfl⟩, by rw [← reps_length ra]; exact q _ _ (Same.refl _) resE_int⟩
  · cases e
    obtain ⟨v, rfl, r⟩ := repRL1 hr
    obtain ⟨a, xs, rfl, ta, ra⟩ := repR_tup r
    exact .inl ⟨_, xs.length, rfl, .inr ⟨xs, ta.sq, rfl⟩, by rw [← reps_length ra]; exact q _ _ (Same.refl _) resE_int⟩
  · split at e
    · rename_i hz
      cases e
      obtain ⟨v, rfl, r⟩ := repRL1 hr
      obtain ⟨a, ks, vs, u, rfl, hr, hd, rk, rv⟩ := repR_dict r
      exact .inr ⟨O, a, u, _, ks, vs, rfl, hr, hd, rk, hz, q _ _ (Same.refl _) resE_int⟩
    · cases e
  · split at e
    · rename_i ns e1
      cases e
      obtain ⟨v, rfl, r⟩ := repRL1 hr
      rcases r with ⟨a, rfl, ha⟩ | ⟨_, _, _, z⟩
      · obtain ⟨b, eb, hb⟩ := hk.2 _ _ e1
        rw [ha] at eb; cases eb
        exact .inl ⟨_, ns.length, rfl, .inl ⟨_, .inl (.inl hb), by rw [List.length_map]⟩, q _ _ (Same.refl _) resE_int⟩
      · exact z.elim
    · cases e
  · cases e
    obtain ⟨v, rfl, r⟩ := repRL1 hr
    rcases r with ⟨a, rfl, ha⟩ | ⟨_, _, _, z⟩
    · exact .inl ⟨_, _, rfl, .inl ⟨_, ha.sq, by rw [List.length_map]⟩, q _ _ (Same.refl _) resE_int⟩
    · exact z.elim
  · cases e

/-! ### isinstance -/
/-- a value's kind, as isinstance asks -/
def tyS : SV → Option String
  | .d .none => some "NoneType"
  | .d (.bool _) => some "bool"
  | .d (.int _) => some "int"
  | .d (.str _) => some "str"
  | .d (.list _) => some "list"
  | .d (.tuple _) => some "tuple"
  | .d (.dict _) => some "dict"
  | .z _ => some "list"
  | _ => none
def TyP (G : Gd) (H : Hp) (x : V) (t : String) : Prop := TyX G.K H x (.type t) ∨ (t = "dict" ∧ ∃ a u kvs ks vs, x = .ref a ∧ Rd H a u ∧ DicO G a u kvs ks vs)
theorem tyS_is {G : Gd} {H : Hp} {hs : List Addr} {O : Addr → Prop} {s : SV} {x : V} {t : String} (e : tyS s = some t) (r : RepR G H hs O s x) : TyP G H x t := by
  unfold tyS at e
  split at e
  · cases e; rw [repR_none r]; exact .inl (.base .non)
  · cases e; rw [repR_bool r]; exact .inl (.base (.bl _))
  · cases e; rw [repR_int r]; exact .inl (.base (.int _))
  · cases e; rw [repR_str r]; exact .inl (.base (.str _))
  · cases e
    obtain ⟨a, xs, rfl, ta, _⟩ := repR_list r
    exact .inl (.base (.lst ta))
  · cases e
    obtain ⟨a, xs, rfl, ta, _⟩ := repR_tup r
    rcases ta with h | ⟨o, its, n, h1, h2, _⟩
    · exact .inl (.base (.tup h))
    · exact .inl (.kTuple h1 h2)
  · cases e
    obtain ⟨a, ks, vs, u, rfl, hr, hd, _⟩ := repR_dict r
    exact .inr ⟨rfl, a, u, _, ks, vs, rfl, hr, hd⟩
  · cases e
    rcases r with ⟨a, rfl, z⟩ | ⟨_, _, _, z⟩
    · rcases z with ⟨o, z⟩ | ⟨o, its, n, h1, h2, _⟩
      · exact .inl (.base (.frz z))
      · exact .inl (.kList h1 h2)
    · exact z.elim
  · cases e
theorem call_isiP {X : Cx} : CallR X (.builtin "isinstance") (fun xs H Q => ∃ x t T b, xs = [x, .ty T] ∧ TyP (gd X) H x t ∧ kitB t T = some b ∧ Q (.bl b) H) := by
  intro pins s σ H xs us Q I r h
  obtain ⟨x, t, T, b, rfl, ty, e, q⟩ := h
  rcases ty with ty | ⟨rfl, a, u, kvs, ks, vs, rfl, hr, hd⟩
  · exact call_isi pins s σ H _ us Q I r ⟨x, .ty T, _, _, b, rfl, .ty T, ty, kit_ty e, q⟩
  · obtain ⟨u1, u2, rfl, r1, r2⟩ := vals2 r
    cases (show u1 = Value.ref a from r1)
    cases (show u2 = Value.type T from r2)
    obtain ⟨o, ho, ex⟩ := dic_typeIs I hr hd
    exact PySem.W.kia_one PySem.W.kitx_dict I.kIn ⟨o, ho, ex.1⟩ (kit_ty (K := X.K) e) (fun z => (nomatch z)) fun tk => ⟨.bl b, H, I.tok tk, rfl, q⟩
def xIsi (T : String) (f : Rx) : Ex := fun sl w => match f sl w with
  | some (sv, w1) => (match tyS sv with
    | some t => (match kitB t T with
      | some b => some ((.d (.bool b), false), w1)
      | none => none)
    | none => none)
  | none => none
theorem pE_isi {X : Cx} {T : String} {y : Str} {e : Expr} {f : Rx} {p p2 pos : Pos} (hg : Gl X "isinstance") (hm : X.mg "isinstance" = none) (he : PE X e (tR (gd X) f)) (hy : PE X (.Name y p2) (tC (.ty T)))
    (hs : starEach [e, .Name y p2] X.env = (false, eval e X.env) :: starEach [.Name y p2] X.env) (hs2 : starEach [.Name y p2] X.env = (false, eval (.Name y p2) X.env) :: starEach [] X.env) (hpl : (backTo pos (starEach [.Name y p2] X.env)).any (·.1) = false) :
    PE X (.Call (.Name "isinstance" p) [e, .Name y p2] [] pos) (tE (gd X) (xIsi T f)) := (pe_callB call_isiP hg hm PyProof.Rows.boot_isinstance (pa_cons he (pa_cons hy pa_nil hs2) hs) (by decide) (by decide) hs hpl).imp fun σ H Q h => by
  obtain ⟨c, hs, oa, sl, w, sv, b, w', S, e, q⟩ := h
  unfold xIsi at e
  split at e
  · rename_i s w1 e1
    split at e
    · rename_i t e2
      split at e
      · rename_i b2 e3
        cases e
        exact ⟨c, hs, oa, sl, w, _, w', S, e1, fun v H1 hs1 S1 x1 sb1 r1 => ⟨v, t, T, b2, rfl, tyS_is e2 r1, e3, q _ H1 hs1 S1 x1 sb1 resE_bool⟩⟩
      · cases e
    · cases e
  · cases e

/-! ### list(x), tuple(x) -/
/-- the items of what is a list -/
def seqL (sto : List (List Int)) : SV → Option (List P)
  | .d (.list ps) => some ps
  | .h n => (match sto[n]? with
    | some ns => some (ns.map PyData.int)
    | none => none)
  | .z ns => some (ns.map PyData.int)
  | _ => none
theorem seqL_is {G : Gd} {H : Hp} {hs : List Addr} {O : Addr → Prop} {s : SV} {ps : List P} {x : V} {sto : List (List Int)} (hk : HsOk H hs sto) (r : RepR G H hs O s x) (e : seqL sto s = some ps) : ∃ a xs, x = .ref a ∧ SqL G.K H a xs ∧ Reps G H O ps xs := by
  unfold seqL at e
  split at e
  · cases e
    obtain ⟨a, xs, rfl, ta, ra⟩ := repR_list r
    exact ⟨a, xs, rfl, .inl (.inl ta), ra⟩
  · split at e
    · rename_i ns e1
      cases e
      rcases r with ⟨a, rfl, ha⟩ | ⟨_, _, _, z⟩
      · obtain ⟨b, eb, hb⟩ := hk.2 _ _ e1
        rw [ha] at eb; cases eb
        exact ⟨a, _, rfl, .inl (.inl hb), reps_ints ns⟩
      · exact z.elim
    · cases e
  · cases e
    rcases r with ⟨a, rfl, ha⟩ | ⟨_, _, _, z⟩
    · exact ⟨a, _, rfl, ha.sq, reps_ints _⟩
    · exact z.elim
  · cases e
def listS : List SV → List (List Int) → Option (SV × Bool)
  | [.d (.tuple ps)], _ => some (.d (.list ps), true)
  | [s], sto => (match seqL sto s with
    | some ps => some (.d (.list ps), true)
    | none => none)
  | _, _ => none
theorem sem_list {G : Gd} : CallSem G listS (fun xs H Q => ∃ p ys, xs = [.ref p] ∧ (SqL G.K H p ys ∨ SqT G.K H p ys) ∧ ∀ l, H l = none → Q (.ref l) (upd H l (.lst ys))) := by
  intro H hs O sto args vs sv b Q hk ho hr e q
  unfold listS at e
  split at e
  · cases e
    obtain ⟨v, rfl, r⟩ := repRL1 hr
    obtain ⟨a, xs, rfl, ta, ra⟩ := repR_tup r
    exact ⟨a, xs, rfl, .inr ta.sq, fun l hl => q _ _ (same_new hl) (resE_list hl ho ra)⟩
  · split at e
    · rename_i ps e1
      cases e
      obtain ⟨v, rfl, r⟩ := repRL1 hr
      obtain ⟨a, xs, rfl, h1, h2⟩ := seqL_is hk r e1
      exact ⟨a, xs, rfl, .inl h1, fun l hl => q _ _ (same_new hl) (resE_list hl ho h2)⟩
    · cases e
  · cases e
def tupS : List SV → List (List Int) → Option (SV × Bool)
  | [.d (.tuple ps)], _ => some (.d (.tuple ps), false)
  | [s], sto => (match seqL sto s with
    | some ps => some (.d (.tuple ps), false)
    | none => none)
  | _, _ => none
theorem sem_tup {G : Gd} : CallSem G tupS (fun xs H Q => ∃ p ys, xs = [.ref p] ∧ ((SqL G.K H p ys ∧ ∀ l, H l = none → Q (.ref l) (upd H l (.tup ys))) ∨ (SqT G.K H p ys ∧ Q (.ref p) H))) := by
  intro H hs O sto args vs sv b Q hk ho hr e q
  unfold tupS at e
  split at e
  · cases e
    obtain ⟨v, rfl, r⟩ := repRL1 hr
    obtain ⟨a, xs, rfl, ta, ra⟩ := repR_tup r
    refine ⟨a, xs, rfl, .inr ⟨ta.sq, q _ _ (Same.refl _) (resE_rep ?_)⟩⟩
    show Rep _ _ _ _ _
    rw [Rep]
    exact ⟨a, xs, rfl, ta, ra⟩
  · split at e
    · rename_i ps e1
      cases e
      obtain ⟨v, rfl, r⟩ := repRL1 hr
      obtain ⟨a, xs, rfl, h1, h2⟩ := seqL_is hk r e1
      exact ⟨a, xs, rfl, .inl ⟨h1, fun l hl => q _ _ (same_new hl) (resE_tup hl h2)⟩⟩
    · cases e
  · cases e

/-! ### all, any of a list of truths -/
def bools : List P → Option (List Bool)
  | [] => some []
  | .bool b :: ps => (match bools ps with
    | some bs => some (b :: bs)
    | none => none)
  | _ => none
theorem bools_eq : ∀ {ps : List P} {bs : List Bool}, bools ps = some bs → ps = bs.map PyData.bool
  | [], bs, e => by simp [bools] at e; subst e; rfl
  | p :: ps, bs, e => by
    cases p with
    | bool b =>
      rw [bools] at e
      split at e
      · rename_i bs' e1
        cases e
        rw [bools_eq e1]; rfl
      · cases e
    | _ => simp [bools] at e
theorem reps_bools {G : Gd} {H : Hp} {O : Addr → Prop} : ∀ {bs : List Bool} {xs : List V}, Reps G H O (bs.map PyData.bool) xs → xs = bs.map V.bl
  | [], xs, h => by rw [List.map_nil, Reps] at h; exact h
  | b :: bs, xs, h => by
    rw [List.map_cons, Reps] at h
    obtain ⟨x, r, rfl, h1, h2⟩ := h
    rw [Rep] at h1
    rw [h1, reps_bools h2]; rfl
def allS : List SV → List (List Int) → Option (SV × Bool)
  | [.d (.list ps)], _ => (match bools ps with
    | some bs => some (.d (.bool (bs.all id)), false)
    | none => none)
  | _, _ => none
def anyS : List SV → List (List Int) → Option (SV × Bool)
  | [.d (.list ps)], _ => (match bools ps with
    | some bs => some (.d (.bool (bs.any id)), false)
    | none => none)
  | _, _ => none
theorem sem_all {G : Gd} : CallSem G allS (rAll G.K) := by
  intro H hs O sto args vs sv b Q hk ho hr e q
  unfold allS at e
  split at e
  · split at e
    · rename_i bs e1
      cases e
      obtain ⟨v, rfl, r⟩ := repRL1 hr
      obtain ⟨a, xs, rfl, ta, ra⟩ := repR_list r
      rw [bools_eq e1] at ra
      cases reps_bools ra
      exact ⟨a, bs, rfl, .inl (.inl ta), q _ _ (Same.refl _) resE_bool⟩
    · cases e
  · cases e
theorem sem_any {G : Gd} : CallSem G anyS (rAny G.K) := by
  intro H hs O sto args vs sv b Q hk ho hr e q
  unfold anyS at e
  split at e
  · split at e
    · rename_i bs e1
      cases e
      obtain ⟨v, rfl, r⟩ := repRL1 hr
      obtain ⟨a, xs, rfl, ta, ra⟩ := repR_list r
      rw [bools_eq e1] at ra
      cases reps_bools ra
      exact ⟨a, bs, rfl, .inl (.inl ta), q _ _ (Same.refl _) resE_bool⟩
    · cases e
  · cases e

/-! ### sum, max, min of a list of ints -/
def intsP : List P → Option (List Int)
  | [] => some []
  | .int i :: ps => (match intsP ps with
    | some is => some (i :: is)
    | none => none)
  | _ => none
theorem intsP_eq : ∀ {ps : List P} {ns : List Int}, intsP ps = some ns → ps = ns.map PyData.int
  | [], bs, e => by simp [intsP] at e; subst e; rfl
  | p :: ps, bs, e => by
    cases p with
    | int b =>
      rw [intsP] at e
      split at e
      · rename_i bs' e1
        cases e
        rw [intsP_eq e1]; rfl
      · cases e
    | _ => simp [intsP] at e
theorem reps_intsP {G : Gd} {H : Hp} {O : Addr → Prop} : ∀ {ns : List Int} {xs : List V}, Reps G H O (ns.map PyData.int) xs → xs = ns.map V.int
  | [], xs, h => by rw [List.map_nil, Reps] at h; exact h
  | b :: bs, xs, h => by
    rw [List.map_cons, Reps] at h
    obtain ⟨x, r, rfl, h1, h2⟩ := h
    rw [Rep] at h1
    rw [h1, reps_intsP h2]; rfl
def maxI : List Int → Int
  | [] => 0
  | [i] => i
  | i :: is => max i (maxI is)
def minI : List Int → Int
  | [] => 0
  | [i] => i
  | i :: is => min i (minI is)
theorem maxI_ge : ∀ {ns : List Int} {y : Int}, y ∈ ns → y ≤ maxI ns
  | [i], y, h => by simp at h; subst h; exact Int.le_refl _
  | i :: j :: is, y, h => by
    show y ≤ max i (maxI (j :: is))
    rcases List.mem_cons.mp h with h | h
    · omega
    · have := maxI_ge h; omega
theorem maxI_mem : ∀ {ns : List Int}, ns ≠ [] → maxI ns ∈ ns
  | [i], _ => by simp [maxI]
  | i :: j :: is, _ => by
    have h := maxI_mem (ns := j :: is) (by simp)
    show max i (maxI (j :: is)) ∈ _
    by_cases c : i ≤ maxI (j :: is)
    · rw [Int.max_eq_right c]; exact List.mem_cons_of_mem _ h
    · rw [Int.max_eq_left (by omega)]; exact List.mem_cons_self
theorem minI_le : ∀ {ns : List Int} {y : Int}, y ∈ ns → minI ns ≤ y
  | [i], y, h => by simp at h; subst h; exact Int.le_refl _
  | i :: j :: is, y, h => by
    show min i (minI (j :: is)) ≤ y
    rcases List.mem_cons.mp h with h | h
    · omega
    · have := minI_le h; omega
theorem minI_mem : ∀ {ns : List Int}, ns ≠ [] → minI ns ∈ ns
  | [i], _ => by simp [minI]
  | i :: j :: is, _ => by
    have h := minI_mem (ns := j :: is) (by simp)
    show min i (minI (j :: is)) ∈ _
    by_cases c : i ≤ minI (j :: is)
    · rw [Int.min_eq_left c]; exact List.mem_cons_self
    · rw [Int.min_eq_right (by omega)]; exact List.mem_cons_of_mem _ h
def numsS (f : List Int → Option Int) : List SV → List (List Int) → Option (SV × Bool)
  | [s], sto => (match seqL sto s with
    | some ps => (match intsP ps with
      | some ns => (match f ns with
        | some k => some (.d (.int k), false)
        | none => none)
      | none => none)
    | none => none)
  | _, _ => none
theorem nums_is {G : Gd} {H : Hp} {hs : List Addr} {O : Addr → Prop} {f : List Int → Option Int} {args : List SV} {vs : List V} {sto : List (List Int)} {sv : SV} {b : Bool} (hk : HsOk H hs sto) (r : RepRL G H hs O args vs) (e : numsS f args sto = some (sv, b)) : ∃ a ns k, vs = [.ref a] ∧ SqL G.K H a (ns.map V.int) ∧ f ns = some k ∧ sv = .d (.int k) ∧ b = false := by
  unfold numsS at e
  split at e
  · split at e
    · rename_i ps e1
      split at e
      · rename_i ns e2
        split at e
        · rename_i k e3
          cases e
          obtain ⟨v, rfl, rr⟩ := repRL1 r
          obtain ⟨a, xs, rfl, h1, h2⟩ := seqL_is hk rr e1
          rw [intsP_eq e2] at h2
          cases reps_intsP h2
          exact ⟨a, ns, k, rfl, h1, e3, rfl, rfl⟩
        · cases e
      · cases e
    · cases e
  · cases e
theorem sem_sum {G : Gd} : CallSem G (numsS fun ns => some ns.sum) (rSum G.K) := by
  intro H hs O sto args vs sv b Q hk ho hr e q
  obtain ⟨a, ns, k, rfl, h1, h2, rfl, rfl⟩ := nums_is hk hr e
  cases h2
  exact ⟨a, ns, rfl, h1, q _ _ (Same.refl _) resE_int⟩
def maxO (ns : List Int) : Option Int := if ns = [] then none else some (maxI ns)
def minO (ns : List Int) : Option Int := if ns = [] then none else some (minI ns)
theorem sem_max {G : Gd} : CallSem G (numsS maxO) (rMax G.K) := by
  intro H hs O sto args vs sv b Q hk ho hr e q
  obtain ⟨a, ns, k, rfl, h1, h2, rfl, rfl⟩ := nums_is hk hr e
  unfold maxO at h2
  split at h2
  · cases h2
  · rename_i hn
    cases h2
    refine ⟨a, ns, rfl, h1, List.length_pos_iff.mpr hn, fun m hm hle => ?_⟩
    have : m = maxI ns := Int.le_antisymm (maxI_ge hm) (hle _ (maxI_mem hn))
    rw [this]
    exact q _ _ (Same.refl _) resE_int
theorem sem_min {G : Gd} : CallSem G (numsS minO) (rMin G.K) := by
  intro H hs O sto args vs sv b Q hk ho hr e q
  obtain ⟨a, ns, k, rfl, h1, h2, rfl, rfl⟩ := nums_is hk hr e
  unfold minO at h2
  split at h2
  · cases h2
  · rename_i hn
    cases h2
    refine ⟨a, ns, rfl, h1, List.length_pos_iff.mpr hn, fun m hm hle => ?_⟩
    have : m = minI ns := Int.le_antisymm (hle _ (minI_mem hn)) (minI_le hm)
    rw [this]
    exact q _ _ (Same.refl _) resE_int
end PI
/-! PI22: chains, tests, list(range(..)), displays of dicts. -/
namespace PI
open PySem PySem.Spec L2

/-! ### a op b op c -/
def xChain (o1 o2 : SV → SV → Option Bool) (f g h : Rx) : Ex := fun sl w => match f sl w with
  | some (s, w1) => (match g sl w1 with
    | some (t, w2) => (match o1 s t with
      | some true => (match h sl w2 with
        | some (u, w3) => (match o2 t u with
          | some b => some ((.d (.bool b), false), w3)
          | none => none)
        | none => none)
      | some false => some ((.d (.bool false), false), w2)
      | none => none)
    | none => none)
  | none => none
theorem tE_chain {G : Gd} {o1 o2 : SV → SV → Option Bool} {r r' : R2} (h1 : CmpSem G o1 r) (h2 : CmpSem G o2 r') {f g h : Rx} {σ : L2.St} {H : Hp} {Q : VK} (q0 : tE G (xChain o1 o2 f g h) σ H Q) : tChain r r' (tR G f) (tR G g) (tR G h) σ H Q := by
  obtain ⟨c, hs, oa, sl, w, sv, b, w', S, e, q⟩ := q0
  unfold xChain at e
  split at e
  · rename_i s w1 e1
    split at e
    · rename_i t w2 e2
      refine ⟨c, hs, oa, sl, w, _, w1, S, e1, fun v H1 hs1 S1 x1 sb1 r1 => ?_⟩
      refine ⟨c, hs1, oa, sl, w1, _, w2, S1, e2, fun u H2 hs2 S2 x2 sb2 r2 => ?_⟩
      have r1' := r1.keep x2 (x2.keep sb2)
      split at e
      · rename_i e3
        split at e
        · rename_i z w3 e4
          split at e
          · rename_i b2 e5
            cases e
            refine h1 H2 hs2 (Off c hs2 w2.own oa) s t v u true _ r1' r2 e3 ⟨true, rfl, ?_⟩
            rw [if_pos rfl]
            refine ⟨c, hs2, oa, sl, w2, _, w', S2, e4, fun y H3 hs3 S3 x3 sb3 r3 => ?_⟩
            exact h2 H3 hs3 (Off c hs3 w'.own oa) t z u y b2 Q (r2.keep x3 (x3.keep sb3)) r3 e5 (q _ H3 hs3 S3 ((x1.trans x2).trans x3) ((sb1.trans sb2).trans sb3) resE_bool)
          · cases e
        · cases e
      · rename_i e3
        cases e
        refine h1 H2 hs2 (Off c hs2 w'.own oa) s t v u false _ r1' r2 e3 ⟨false, rfl, ?_⟩
        rw [if_neg Bool.false_ne_true]
        exact q _ H2 hs2 S2 (x1.trans x2) (sb1.trans sb2) resE_bool
      · cases e
    · cases e
  · cases e
theorem pE_chain {X : Cx} {a b d : Expr} {op op' : CmpOp} {r r' : R2} {o1 o2 : SV → SV → Option Bool} {f g h : Rx} {pos : Pos} (ho : OpR X (compareOp op) r) (h1 : CmpSem (gd X) o1 r) (ho' : OpR X (compareOp op') r') (h2 : CmpSem (gd X) o2 r') (ha : PE X a (tR (gd X) f)) (hb : PE X b (tR (gd X) g)) (hc : PE X d (tR (gd X) h))
    (hm : lastMarks [op, op'] [b, d] = false) : PE X (.Compare a [op, op'] [b, d] pos) (tE (gd X) (xChain o1 o2 f g h)) := (pe_chain ho ho' ha hb hc hm).imp fun σ H Q q => tE_chain h1 h2 q
theorem pC_chain {X : Cx} {a b d : Expr} {op op' : CmpOp} {r r' : R2} {o1 o2 : SV → SV → Option Bool} {f g h : Rx} {pos : Pos} (ho : OpR X (compareOp op) r) (h1 : CmpSem (gd X) o1 r) (ho' : OpR X (compareOp op') r') (h2 : CmpSem (gd X) o2 r') (ha : PE X a (tR (gd X) f)) (hb : PE X b (tR (gd X) g)) (hc : PE X d (tR (gd X) h))
    (hm : lastMarks [op, op'] [b, d] = false) : PT X (.Compare a [op, op'] [b, d] pos) (tC' (gd X) (bOf (xChain o1 o2 f g h))) := (pt_chain ho ho' ha hb hc hm).imp fun σ H Q q => tE_chain h1 h2 (tC_test q)
/-- a value that is a truth, as a test -/
theorem pC_val {X : Cx} {e : Expr} {f : Ex} (h : PE X e (tE (gd X) f)) (he : ∀ whole, isTrue e X.env whole = (do let v ← whole; standAt e.pos; holding [v] (truthy v))) : PT X e (tC' (gd X) (bOf f)) := (pt_val h he).imp fun σ H Q q => tC_test q

/-! ### list(range(..)) -/
theorem pi_tL {G : Gd} : ∀ {fs : List Ex} {σ : L2.St} {H : Hp}, True := trivial
def xLRg (fs : List Ex) : Ex := fun sl w => match evL fs sl w with
  | some (ss, w1) => (match rngP ss with
    | some ps => if ps.length ≤ sizeLine then some ((.d (.list ps), true), w1) else none
    | none => none)
  | none => none
theorem reps_rng {G : Gd} {H : Hp} {O : Addr → Prop} (a : Int) (n : Nat) : Reps G H O ((List.range n).map fun i => PyData.int (a + (i : Nat))) ((List.range n).map fun i => V.int (a + (i : Nat))) := by
  have := reps_ints (G := G) (H := H) (O := O) ((List.range n).map fun i => a + ((i : Nat) : Int))
  rw [List.map_map, List.map_map] at this
  exact this
theorem line24 {n : Nat} (h : n ≤ sizeLine) : n ≤ 2 ^ 24 := by rw [sizeLine_eq] at h; omega
theorem pE_lrg1 {X : Cx} {a : Expr} {f : Ex} {p pr pos pos2 : Pos} (hc : X.calm = true) (hgl : Gl X "list") (hml : X.mg "list" = none) (hg : Gl X "range") (hm : X.mg "range" = none) (ha : PE X a (tE (gd X) f)) (na : starEach [a] X.env = (false, eval a X.env) :: starEach [] X.env)
    (na2 : starEach [.Call (.Name "range" pr) [a] [] pos2] X.env = (false, eval (.Call (.Name "range" pr) [a] [] pos2) X.env) :: starEach [] X.env) : PE X (.Call (.Name "list" p) [.Call (.Name "range" pr) [a] [] pos2] [] pos) (tE (gd X) (xLRg [f])) :=
  (pe_listRg hc hgl hml (prg_1 hg hm ha na) na2).imp fun σ H Q q => by
    obtain ⟨c, hs, oa, sl, w, sv, b, w', S, e, q⟩ := q
    unfold xLRg at e
    split at e
    · rename_i ss w1 e1
      split at e
      · rename_i ps e2
        split at e
        · rename_i hz
          cases e
          unfold evL at e1
          split at e1
          · rename_i sv b w2 e3
            unfold evL at e1
            cases e1
            refine ⟨c, hs, oa, sl, w, sv, b, w', S, e3, fun v H1 hs1 S1 x1 sb1 r1 => ?_⟩
            have rv := r1.rep S x1 sb1
            unfold rngP at e2
            split at e2
            · rename_i j eq
              cases eq
              split at e2
              · rename_i hb
                cases e2
                obtain ⟨b1, b2⟩ := bd62_of hb
                rw [List.length_map, List.length_range] at hz
                refine ⟨j, repS_int rv, ⟨by omega, by omega, b1, b2, by have := line24 hz; omega⟩, fun l hl => ?_⟩
                refine q _ _ hs1 (S1.grow (same_new hl)) (x1.trans (.grow (same_new hl))) sb1 ?_
                have r2 := reps_rng (G := gd X) (H := H1) (O := Off c hs1 w'.own oa) 0 j.toNat
                have e4 : ((List.range j.toNat).map fun i => PyData.int (0 + (i : Nat))) = (List.range j.toNat).map fun i => PyData.int (i : Nat) := by simp
                rw [e4] at r2
                have e5 : rgV 0 j = (List.range j.toNat).map fun i => V.int (0 + (i : Nat)) := by unfold rgV; rw [Int.sub_zero]
                rw [e5]
                exact (resE_list hl (fun a ha => S1.off_some (.inr (.inl ha))) r2).back x1
              · cases e2
            · rename_i eq; cases eq
            · rename_i eq; cases eq
            · cases e2
          · cases e1
        · cases e
      · cases e
    · cases e
theorem pE_lrg2 {X : Cx} {a b : Expr} {f g : Ex} {p pr pos pos2 : Pos} (hc : X.calm = true) (hgl : Gl X "list") (hml : X.mg "list" = none) (hg : Gl X "range") (hm : X.mg "range" = none) (ha : PE X a (tE (gd X) f)) (hb : PE X b (tE (gd X) g)) (na : starEach [a, b] X.env = (false, eval a X.env) :: starEach [b] X.env) (nb : starEach [b] X.env = (false, eval b X.env) :: starEach [] X.env) (hp : (backTo pos2 (starEach [b] X.env)).any (·.1) = false)
    (na2 : starEach [.Call (.Name "range" pr) [a, b] [] pos2] X.env = (false, eval (.Call (.Name "range" pr) [a, b] [] pos2) X.env) :: starEach [] X.env) : PE X (.Call (.Name "list" p) [.Call (.Name "range" pr) [a, b] [] pos2] [] pos) (tE (gd X) (xLRg [f, g])) :=
  (pe_listRg hc hgl hml (prg_2 hg hm ha hb na nb hp) na2).imp fun σ H Q q => by
    obtain ⟨c, hs, oa, sl, w, sv, b, w', S, e, q⟩ := q
    unfold xLRg at e
    split at e
    · rename_i ss w1 e1
      split at e
      · rename_i ps e2
        split at e
        · rename_i hz
          cases e
          unfold evL at e1
          split at e1
          · rename_i sv b w2 e3
            split at e1
            · rename_i ss2 w3 e4
              unfold evL at e4
              split at e4
              · rename_i sv2 b2 w4 e5
                unfold evL at e4
                cases e4
                cases e1
                refine ⟨c, hs, oa, sl, w, sv, b, w2, S, e3, fun v H1 hs1 S1 x1 sb1 r1 => ?_⟩
                refine ⟨c, hs1, oa, sl, w2, sv2, b2, w', S1, e5, fun v2 H2 hs2 S2 x2 sb2 r2 => ?_⟩
                have rv := r1.rep S x1 sb1
                have rv2 := r2.rep S1 x2 sb2
                unfold rngP at e2
                split at e2
                · rename_i eq; cases eq
                · rename_i i j eq
                  cases eq
                  split at e2
                  · rename_i hb
                    cases e2
                    rw [Bool.and_eq_true] at hb
                    obtain ⟨b1, b2⟩ := bd62_of hb.1
                    obtain ⟨b3, b4⟩ := bd62_of hb.2
                    rw [List.length_map, List.length_range] at hz
                    refine ⟨i, j, repS_int rv, repS_int rv2, ⟨b1, b2, b3, b4, line24 hz⟩, fun l hl => ?_⟩
                    refine q _ _ hs2 (S2.grow (same_new hl)) ((x1.trans x2).trans (.grow (same_new hl))) (sb1.trans sb2) ?_
                    exact (resE_list hl (fun a ha => S2.off_some (.inr (.inl ha))) (reps_rng i (j - i).toNat)).back (x1.trans x2)
                  · cases e2
                · rename_i eq; cases eq
                · cases e2
              · cases e4
            · cases e1
          · cases e1
        · cases e
      · cases e
    · cases e

/-! ### displays of dicts -/
def evPrs : List (Ex × Ex) → Slots → W → Option (List (P × P) × W)
  | [], _, w => some ([], w)
  | (f, g) :: r, sl, w => match f sl w with
    | some ((.d k, _), w1) => (match g sl w1 with
      | some ((.d v, _), w2) => (match evPrs r sl w2 with
        | some (ps, w3) => some ((k, v) :: ps, w3)
        | none => none)
      | _ => none)
    | _ => none
def putAll (kvs : List (P × P)) (ps : List (P × P)) : List (P × P) := ps.foldl (fun acc q => putP acc q.1 q.2) kvs
def xDisp (fs : List (Ex × Ex)) : Ex := fun sl w => match evPrs fs sl w with
  | some (ps, w1) => if ps.all (fun q => (keyK q.1).isSome) = true ∧ ps.length ≤ 15 then some ((.d (.dict (putAll [] ps)), true), w1) else none
  | none => none
theorem tPairs_of {G : Gd} {σ : L2.St} {sl : Slots} {c : Cn} {oa : Nat → Addr} : ∀ {fs : List (Ex × Ex)} {w w' : W} {H : Hp} {hs : List Addr} {ps : List (P × P)} {Q : List (V × V) → Hp → Prop}, SRel G c hs oa sl w σ H → evPrs fs sl w = some (ps, w') →
    (∀ vs H' hs', SRel G c hs' oa sl w' σ H' → Ext hs H hs' H' → Sub w' w → Paired (fun (p : P × P) (v : V × V) => Rep G H' (Off c hs' w'.own oa) p.1 v.1 ∧ Rep G H' (Off c hs' w'.own oa) p.2 v.2) ps vs → Q vs H') → tPairs (fs.map fun f => (tE G f.1, tE G f.2)) σ H Q
  | [], w, w', H, hs, ps, Q, S, e, q => by
    cases e
    exact q [] H hs S .refl .refl .nil
  | (f, g) :: r, w, w', H, hs, ps, Q, S, e, q => by
    unfold evPrs at e
    split at e
    · rename_i k b w1 e1
      split at e
      · rename_i v b2 w2 e2
        split at e
        · rename_i ps2 w3 e3
          cases e
          refine ⟨c, hs, oa, sl, w, _, b, w1, S, e1, fun x H1 hs1 S1 x1 sb1 r1 => ?_⟩
          refine ⟨c, hs1, oa, sl, w1, _, b2, w2, S1, e2, fun y H2 hs2 S2 x2 sb2 r2 => ?_⟩
          refine tPairs_of S2 e3 fun vs H3 hs3 S3 x3 sb3 pr => ?_
          have rk : Rep G H1 (Off c hs1 w1.own oa) k x := r1.rep S x1 sb1
          have rv : Rep G H2 (Off c hs2 w2.own oa) v y := r2.rep S1 x2 sb2
          exact q _ H3 hs3 S3 ((x1.trans x2).trans x3) ((sb1.trans sb2).trans sb3) (.cons ⟨Rep.keep ((x2.keep sb2).trans (x3.keep sb3)) _ _ rk, Rep.keep (x3.keep sb3) _ _ rv⟩ pr)
        · cases e
      · cases e
    · cases e
theorem putAll_rep {G : Gd} {H : Hp} {O : Addr → Prop} : ∀ {ps : List (P × P)} {vs : List (V × V)} {kvs : List (P × P)} {ls : List (Key × V)}, Paired (fun (p : P × P) (v : V × V) => Rep G H O p.1 v.1 ∧ Rep G H O p.2 v.2) ps vs → ps.all (fun q => (keyK q.1).isSome) = true →
    kvs.map (·.1) = ls.map (fun q => keyP q.1) → RepVs G H O kvs (ls.map (·.2)) → ∃ more : List (Key × V), vs = more.map (fun kv => (kV kv.1, kv.2)) ∧ more.length = ps.length ∧ (putAll kvs ps).map (·.1) = (mergeK ls more).map (fun q => keyP q.1) ∧ RepVs G H O (putAll kvs ps) ((mergeK ls more).map (·.2))
  | [], _, kvs, ls, .nil, _, e, r => ⟨[], rfl, rfl, e, r⟩
  | p :: ps, _, kvs, ls, .cons (b := v) h t, ha, e, r => by
    rw [List.all_cons, Bool.and_eq_true] at ha
    obtain ⟨k, hk⟩ := Option.isSome_iff_exists.mp ha.1
    have ek := keyK_eq hk
    have hv : v.1 = kV k := by
      have h1 := h.1
      rw [ek] at h1
      cases k <;> (unfold keyP at h1; rw [Rep] at h1; exact h1)
    obtain ⟨p1, p2⟩ := put_rep (k := k) keyP keyP_inj h.2 e r
    obtain ⟨more, e1, e2, e3, e4⟩ := putAll_rep t ha.2 p1 p2
    refine ⟨(k, v.2) :: more, ?_, by rw [List.length_cons, e2]; rfl, ?_, ?_⟩
    · rw [List.map_cons, ← e1, ← hv]
    · show (putAll (putP kvs p.1 p.2) ps).map _ = _
      rw [ek]; exact e3
    · show RepVs G H O (putAll (putP kvs p.1 p.2) ps) _
      rw [ek]; exact e4
inductive Prs (X : Cx) (pos : Pos) : List (Option Expr) → List Expr → List (Ex × Ex) → Prop
  | nil : Prs X pos [] [] []
  | cons {k v : Expr} {ks : List (Option Expr)} {vs : List Expr} {f g : Ex} {fs : List (Ex × Ex)} : PE X k (tE (gd X) f) → PE X v (tE (gd X) g) → Prs X pos ks vs fs → Prs X pos (some k :: ks) (v :: vs) ((f, g) :: fs)
theorem pps_of {X : Cx} {pos : Pos} : ∀ {ks : List (Option Expr)} {vs : List Expr} {fs : List (Ex × Ex)}, Prs X pos ks vs fs → PPs X pos ks vs (fs.map fun f => (tE (gd X) f.1, tE (gd X) f.2))
  | _, _, _, .nil => pps_nil
  | _, _, _, .cons h1 h2 r => pps_cons h1 h2 (pps_of r)
theorem pE_disp {X : Cx} {pos : Pos} {keys : List (Option Expr)} {values : List Expr} {fs : List (Ex × Ex)} (h : Prs X pos keys values fs) (hall : keys.all (·.isSome) = true) (hl : keys.length = values.length) (h0 : keys ≠ []) (h15 : keys.length ≤ 15) : PE X (.Dict keys values pos) (tE (gd X) (xDisp fs)) :=
  (pe_disp (pps_of h) hall hl h0 h15).imp fun σ H Q q => by
    obtain ⟨c, hs, oa, sl, w, sv, b, w', S, e, q⟩ := q
    unfold xDisp at e
    split at e
    · rename_i ps w1 e1
      split at e
      · rename_i hc
        obtain ⟨ha, h15'⟩ := hc
        cases e
        intro p hp
        obtain ⟨g1, g2⟩ := He_none S hp
        have S1 := S.addNew (u := .dK []) hp
        refine tPairs_of S1 e1 fun vs H2 hs2 S2 x2 sb2 pr => ?_
        have hp2 : p ∉ hs2 := (S2.fd p (.inr rfl)).2
        have hH : H2 p = some (.dK []) := S2.ext p _ hp2 add_he plain_dK.2.2.1
        obtain ⟨more, e2, e3, e4, e5⟩ := putAll_rep (kvs := []) (ls := []) pr ha rfl (by rw [RepVs]; rfl)
        refine ⟨hH, more, e2, by rw [e3]; exact h15', ?_⟩
        have k2 := keep_addSet (u' := .dK (mergeK [] more)) (own := w'.own) S2 plain_dK
        have S3 := (S2.addSet (u' := .dK (mergeK [] more)) plain_dK).drop g1 g2
        have x3 : Ext hs H hs2 (upd H2 p (.dK (mergeK [] more))) := by
          have hne : ∀ a u, H a = some u → a ≠ p := fun a u e z => by rw [z, hp] at e; cases e
          have up : ∀ a u, H a = some u → upd H p (.dK []) a = some u := fun a u e => by rw [upd_ne (hne a u e)]; exact e
          refine ⟨fun a u n e t => by rw [upd_ne (hne a u e)]; exact x2.same a u n (up a u e) t, x2.pre, fun a ha => ?_, fun a xs e => by rw [upd_ne (hne a _ e)]; exact x2.tup a xs (up a _ e), fun a o xs e => by rw [upd_ne (hne a _ e)]; exact x2.frz a o xs (up a _ e), fun a ps e => by
            obtain ⟨qs, q⟩ := x2.tbl a ps (up a _ e)
            exact ⟨qs, by rw [upd_ne (fun z => by rw [z, hH] at q; cases q)]; exact q⟩, fun t => tb_upd hH plain_dK.2.2.1 plain_dK.2.2.2 (x2.tb (tb_same up t))⟩
          rcases x2.new a ha with z | z
          · exact .inl z
          · refine .inr ?_
            cases q : H a with
            | none => rfl
            | some u => rw [up a u q] at z; cases z
        refine q _ _ hs2 S3 x3 sb2 ?_
        unfold ResE
        rw [if_pos rfl]
        refine ⟨p, rfl, hp, hp2, _, _, _, upd_same, .inl ⟨_, rfl, e4, rfl, rfl⟩, repKs_key e4, ?_⟩
        have kk : Keep (Off (c.add p (.dK [])) hs2 w'.own oa) H2 (fun a => Off c hs2 w'.own oa a ∨ a = p) (upd H2 p (.dK (mergeK [] more))) := k2.trans (.less fun a z => (off_add a).mpr z)
        exact e5.keep kk _ _
      · cases e
    · cases e
/-- {} -/
def xEmp : Ex := fun _ w => some ((.d (.dict []), true), w)
theorem pE_emp {X : Cx} {pos : Pos} : PE X (.Dict [] [] pos) (tE (gd X) xEmp) := pe_dnewK.imp fun σ H Q q => by
  obtain ⟨c, hs, oa, sl, w, sv, b, w', S, e, q⟩ := q
  cases e
  intro p hp
  refine q _ _ hs (S.grow (same_new hp)) (.grow (same_new hp)) .refl ?_
  unfold ResE
  rw [if_pos rfl]
  exact ⟨p, rfl, hp, fun z => S.off_none hp (.inr (.inl z)), [], [], _, upd_same, .inl ⟨[], rfl, rfl, rfl, rfl⟩, by rw [RepKs], by rw [RepVs]⟩
end PI
/-! PI23: x, *rest = a tuple. -/
namespace PI
open PySem PySem.Spec L2

theorem star_items {prog : Program} {w : World} {A : Around} {E : Value → Shared → Prop} {s : Shared} {t : Addr} {items : Array Value} {Q : List Value → Shared → Prop} (hh : A.handled = none) (ht : PyProof.Rows.IsTup s.heap t items) (h1 : 1 ≤ items.size) (hz : items.size ≤ sizeLine)
    (hQ : ∀ (h' : Heap) (tk : Nat), (∀ b o, s.heap.get? b = some o → h'.get? b = some o) → Q (items.toList.take 1 ++ [.ref h'.objs.size] ++ []) { s with heap := h'.push { cls := .type "list", data := .seq (items.toList.drop 1).toArray }, toks := tk }) : wpAny (model prog w) A (unpackItems (.ref t) 2 (some 1)) Q E s := by
  have hne : t ≠ s.heap.objs.size := by obtain ⟨o, ho, _⟩ := ht; exact Nat.ne_of_lt (Heap.lt_size ho)
  unfold unpackItems
  refine wpAny_bind ?_
  unfold notIterableAtAll
  refine wpAny_bind (wpAny_specialOf ht.typeIs PySem.F.slot_tuple_iter.lookup ?_)
  refine wpAny_pure ?_
  simp only [Bool.false_eq_true, if_false]
  refine wpAny_bind (wpAny_holding (PyProof.Rows.iter_tuple ht ?_))
  refine wpAny_bind (wpAny_holding (PyProof.Rows.draw_tuple hne 1 0 _ _ ⟨_, Heap.get?_push_size _ rfl, rfl, rfl⟩ (ht.push _) (by omega) fun h1' hit hs1 => ?_))
  have ht1 : PyProof.Rows.IsTup h1' t items := (ht.push _).extBut hs1.extBut hne
  rw [Nat.zero_add] at hit
  obtain ⟨oi, hoi, _⟩ := id hit
  obtain ⟨ol, hol, _⟩ := id ht1
  rw [List.drop_zero]
  have hl1 : (items.toList.take 1).length = 1 := by rw [List.length_take, Array.length_toList]; omega
  rw [if_neg (by rw [hl1]; omega)]
  refine wpAny_bind (wpAny_holding (PySem.W.kun_collect (s := { s with heap := h1' }) (T := "tuple_iterator") (.inr (.inr (.inr rfl))) (Walks.tuple (A := A.in1) hh s.heap.objs.size t hne items) (fun j u st => st.1.typeIs) (k := 1) h1 ⟨hit, ht1⟩ (Heap.lt_size hoi) (Heap.lt_size hol) (fun h2 tk hk => ?_) hz))
  show wpAny _ _ (if (items.toList.drop 1).length < 2 - 1 - 1 then _ else _) _ _ _
  rw [if_neg (by omega)]
  have hrl : (items.toList.drop 1).length ≤ sizeLine := by rw [List.length_drop, Array.length_toList]; omega
  show wpAny _ _ (newList ((items.toList.drop 1).take ((items.toList.drop 1).length - (2 - 1 - 1))) >>= fun d => pure (items.toList.take 1 ++ [d] ++ (items.toList.drop 1).drop ((items.toList.drop 1).length - (2 - 1 - 1)))) _ _ _
  have e0 : (items.toList.drop 1).length - (2 - 1 - 1) = (items.toList.drop 1).length := by omega
  rw [e0, List.take_length, List.drop_length]
  refine wpAny_bind (wpAny_newList (wpAny_pure ?_) hrl)
  refine hQ h2 tk fun b o e => ?_
  have hb : b ≠ s.heap.objs.size := Nat.ne_of_lt (Heap.lt_size e)
  exact hk b o hb (hs1.extBut b o hb (Heap.get?_push_of_some _ e))
def gStarR (K : PySem.W.Frag) (i j : Nat) : TG := fun v σ H Q => ∃ a x xs, v = .ref a ∧ SqT K H a (x :: xs) ∧ ∀ D, H D = none → Q ((σ.set i (some x)).set j (some (.ref D))) (upd H D (.lst xs))
theorem pg_star {X : Cx} {i j : Nat} {x y : Str} {px py ps pos : Pos} {k : Nat} (hc : X.calm = true) (hx : PG X (.Name x px) (gName i)) (hy : PG X (.Name y py) (gName j))
    (hn : (assignEach [.Name x px, .Starred (.Name y py) ps] X.env).length = 2) (hst : (assignEach [.Name x px, .Starred (.Name y py) ps] X.env).findIdx? (·.1) = some 1)
    (ha : (assignEach [.Name x px, .Starred (.Name y py) ps] X.env).map (·.2) = [assign (.Name x px) X.env, assign (.Name y py) X.env]) : PG X (.Tuple [.Name x px, .Starred (.Name y py) ps] k pos) (gStarR X.K i j) := by
  refine ⟨fun pins s σ H v u Q I r hw => ?_⟩
  obtain ⟨a, x1, xs, rfl, hq, hw⟩ := hw
  cases (show u = Value.ref a from r)
  obtain ⟨its, rv, ht, hz⟩ := I.tuple hq
  rw [PyProof.Rows.assign_Tuple]
  refine wpAny_bind (wpAny_standAt ?_)
  unfold unpack
  rw [hn, hst, ha]
  cases rv with
  | @cons _ u1 _ us r1 rr =>
    have hlen : (u1 :: us).length ≤ sizeLine := by
      have e := rr.length
      rw [List.length_cons] at hz ⊢
      omega
    refine wpAny_bind (wpAny_holding (star_items (I.ok.hd hc) ht (by simp) (by simpa using hlen) fun h' tk hk => ?_))
    have I1 : Inv X pins σ H { s with heap := h', toks := tk } := I.kept hk
    have hD : H h'.objs.size = none := I1.hok.fresh (Nat.le_refl _)
    have I2 : Inv X pins σ (upd H h'.objs.size (.lst xs)) { s with heap := h'.push { cls := .type "list", data := .seq us.toArray }, toks := tk } :=
      I1.laid (t' := tk) (fun b o e => Heap.get?_push_of_some _ e) (Nat.le_refl _) ⟨by rw [List.length_cons] at hz; omega, us, 0, rr, Heap.get?_push_size _ rfl⟩
    show wpAny _ _ (assignInOrder [assign (.Name x px) X.env, assign (.Name y py) X.env] [u1, .ref h'.objs.size]) _ _ _
    refine PyProof.Rows.assignInOrder_cons (thn (hx.run pins _ σ _ x1 u1 (fun σ' H' => σ' = σ.set i (some x1) ∧ H' = upd H h'.objs.size (.lst xs)) I2 r1 ⟨rfl, rfl⟩) fun _ s3 ⟨σ3, H3, I3, e1, e2⟩ => ?_)
    subst e1 e2
    refine PyProof.Rows.assignInOrder_cons (thn (hy.run pins s3 _ _ (.ref h'.objs.size) (.ref h'.objs.size) (fun σ' H' => σ' = (σ.set i (some x1)).set j (some (.ref h'.objs.size)) ∧ H' = upd H h'.objs.size (.lst xs)) I3 rfl ⟨rfl, rfl⟩) fun _ s4 ⟨σ4, H4, I4, e1, e2⟩ => ?_)
    subst e1 e2
    exact PyProof.Rows.assignInOrder_nil ⟨_, _, I4, hw _ hD⟩
/-- x, *rest = a tuple: the rest a list that is shared -/
def gStar (i j : Nat) : Tx := fun sv sl w => match sv with
  | .d (.tuple (p :: ps)) => some ((sl.set i (some (.d p))).set j (some (.d (.list ps))), { w with own := (w.own.erase i).erase j })
  | _ => none
theorem pN_star {X : Cx} {i j : Nat} {vs : List Nat} {x y : Str} {px py ps pos : Pos} {k : Nat} (hc : X.calm = true) (hx : PG X (.Name x px) (gName i)) (hy : PG X (.Name y py) (gName j)) (hvi : i ∈ vs) (hvj : j ∈ vs)
    (hn : (assignEach [.Name x px, .Starred (.Name y py) ps] X.env).length = 2) (hst : (assignEach [.Name x px, .Starred (.Name y py) ps] X.env).findIdx? (·.1) = some 1)
    (ha : (assignEach [.Name x px, .Starred (.Name y py) ps] X.env).map (·.2) = [assign (.Name x px) X.env, assign (.Name y py) X.env]) : PG X (.Tuple [.Name x px, .Starred (.Name y py) ps] k pos) (tN (gd X) vs (gStar i j)) := (pg_star hc hx hy hn hst ha).imp fun v σ H Q h => by
  obtain ⟨c, hs, oa, sl, w, sv, sl', w', S, r, e, q⟩ := h
  unfold gStar at e
  split at e
  · rename_i p ps2
    cases e
    obtain ⟨a, xs0, rfl, ta, ra⟩ := rep_tup (show Rep _ _ _ (.tuple (p :: ps2)) v from r)
    rw [Reps] at ra
    obtain ⟨z, zs, rfl, r1, r2⟩ := ra
    refine ⟨a, z, zs, rfl, ta.sq, fun D hD => ?_⟩
    have sm := same_new (o := .lst zs) hD
    have S1 := S.set (i := i) (sv := .d p) (v := z) (Rep.keep (.less off_erase) _ _ r1)
    have S2 := S1.grow sm
    have no : ¬ Off c hs ((w.own.erase i).erase j) oa D := fun z => S.off_none hD (off_erase D (off_erase D z))
    have kk : Keep (Off c hs w.own oa) H (Off c hs ((w.own.erase i).erase j) oa) (upd H D (.lst zs)) := (Keep.less fun a z => off_erase a (off_erase a z)).trans (.grow sm)
    have S3 := S2.set (i := j) (sv := .d (.list ps2)) (v := .ref D) (by show Rep _ _ _ _ _; rw [Rep]; exact ⟨D, zs, rfl, no, upd_same, r2.keep kk _ _⟩)
    refine q _ _ sm S3 (fun k hk => List.mem_of_mem_erase (List.mem_of_mem_erase hk)) (fun k hk => ?_) (by rw [List.length_set, List.length_set])
    rw [List.getElem?_set_ne (fun z => hk (by rw [← z]; exact hvj)), List.getElem?_set_ne (fun z => hk (by rw [← z]; exact hvi))]
  · cases e
end PI
/-! PI24: sorted of lists, of what is collected. -/
namespace PI
open PySem PySem.Spec L2

def alikeB (ps : List P) : Bool := ps.all fun d => ps.all fun d' => PySem.W.alike d d'
def tup1 : P → Bool
  | .tuple (_ :: _) => true
  | _ => false
def notTup : P → Bool
  | .none => false
  | .tuple _ => false
  | _ => true
def sortOk (ps : List P) : Bool := alikeB ps && (ps.all tup1 || ps.all notTup) && ps.all (fun d => SeqAt.shaped d) && decide (ps.length ≤ sizeLine)
def sortP (ps : List P) : List P := ps.mergeSort (PySem.W.dataLe false id)
theorem sortOk_of {ps : List P} (h : sortOk ps = true) : PySem.W.AllAlike ps ∧ PySem.W.Sortable ps ∧ (∀ p ∈ ps, SeqAt.shaped p = true) ∧ ps.length ≤ sizeLine := by
  unfold sortOk at h
  simp only [Bool.and_eq_true, Bool.or_eq_true, decide_eq_true_eq] at h
  obtain ⟨⟨⟨h1, h2⟩, h3⟩, h4⟩ := h
  refine ⟨fun d hd d' hd' => ?_, ?_, fun p hp => List.all_eq_true.mp h3 p hp, h4⟩
  · unfold alikeB at h1
    exact List.all_eq_true.mp (List.all_eq_true.mp h1 d hd) d' hd'
  · rcases h2 with h2 | h2
    · refine .inl fun d hd => ?_
      have := List.all_eq_true.mp h2 d hd
      unfold tup1 at this
      split at this
      · exact ⟨_, _, rfl⟩
      · cases this
    · refine .inr fun d hd => ?_
      have := List.all_eq_true.mp h2 d hd
      refine ⟨fun e => ?_, fun xs e => ?_⟩
      · subst e; cases this
      · subst e; cases this
/-- what is sorted: data with their values -/
abbrev PV := P × V
theorem sort_fst (bs : List PV) : (bs.mergeSort (PySem.W.dataLe false (fun b : PV => b.1))).map (·.1) = sortP (bs.map (·.1)) :=
  List.map_mergeSort fun _ _ _ _ => rfl
section
variable {X : Cx} {pins : List (Addr × Obj)} {σ : L2.St} {H : Hp} {s : Shared} {O : Addr → Prop}
def prs : List P → List V → List PV := List.zip
theorem prs_fst {ps : List P} {xs : List V} (h : ps.length = xs.length) : (prs ps xs).map (·.1) = ps := List.map_fst_zip (by omega)
theorem each_vals : ∀ {ps : List P} {xs : List V} {us : List Value}, Vals xs us → ps.length = xs.length → PySem.W.EachIs (fun u (b : PV) => RelV b.2 u) us (prs ps xs)
  | [], [], _, .nil, _ => .nil
  | [], _ :: _, _, _, h => by simp at h
  | _ :: _, [], _, _, h => by simp at h
  | p :: ps, x :: xs, _, .cons r t, h => .cons r (each_vals t (by simpa using h))
theorem each_reads (I : Inv X pins σ H s) : ∀ {ps : List P} {xs : List V} {us : List Value}, Vals xs us → Reps (gd X) H O ps xs → (∀ p ∈ ps, SeqAt.shaped p = true) → PySem.W.EachIs (fun u (b : PV) => ∃ as, Reads s.heap u b.1 as) us (prs ps xs)
  | [], xs, us, rv, h, _ => by
    rw [Reps] at h; subst h
    cases rv
    exact .nil
  | p :: ps, xs, us, rv, h, hc => by
    rw [Reps] at h
    obtain ⟨x, r, rfl, h1, h2⟩ := h
    cases rv with
    | cons r1 r2 =>
      refine .cons ?_ (each_reads I r2 h2 fun q hq => hc q (List.mem_cons_of_mem _ hq))
      exact Dp.reads I p x _ (Rep.dp p x (SeqAt.canLay_of_shaped (hc p List.mem_cons_self)) h1) r1
theorem vals_of_each : ∀ {us : List Value} {bs : List PV}, PySem.W.EachIs (fun u (b : PV) => RelV b.2 u) us bs → Vals (bs.map (·.2)) us
  | _, _, .nil => .nil
  | _, _, .cons h t => .cons h (vals_of_each t)
theorem reps_zip {G : Gd} : ∀ {ps : List P} {xs : List V}, Reps G H O ps xs → ∀ b ∈ prs ps xs, Rep G H O b.1 b.2
  | [], _, _, b, hb => by cases hb
  | p :: ps, xs, h, b, hb => by
    rw [Reps] at h
    obtain ⟨x, r, rfl, h1, h2⟩ := h
    rcases List.mem_cons.mp (show b ∈ (p, x) :: prs ps r from hb) with e | hb
    · subst e; exact h1
    · exact reps_zip h2 b hb
theorem reps_of_prs {G : Gd} : ∀ {bs : List PV}, (∀ b ∈ bs, Rep G H O b.1 b.2) → Reps G H O (bs.map (·.1)) (bs.map (·.2))
  | [], _ => reps_nil
  | b :: bs, h => reps_cons (h b List.mem_cons_self) (reps_of_prs fun q hq => h q (List.mem_cons_of_mem _ hq))
/-- the sorted items stand as they stood -/
theorem reps_sorted {G : Gd} {ps : List P} {xs : List V} (h : Reps G H O ps xs) : Reps G H O (sortP ps) (((prs ps xs).mergeSort (PySem.W.dataLe false (fun b : PV => b.1))).map (·.2)) := by
  have e := sort_fst (prs ps xs)
  rw [prs_fst (reps_length h)] at e
  rw [← e]
  exact reps_of_prs fun b hb => reps_zip h b (List.mem_mergeSort.mp hb)
def rSortP (G : Gd) : List V → Hp → VK → Prop := fun vs H Q => ∃ (O : Addr → Prop) (a : Addr) (ps : List P) (xs : List V), vs = [.ref a] ∧ SqL G.K H a xs ∧ Reps G H O ps xs ∧ sortOk ps = true ∧ ∀ (xs' : List V) (p : Addr), H p = none → Reps G H O (sortP ps) xs' → Q (.ref p) (upd H p (.lst xs'))
theorem cr_sortP {X : Cx} (hu : X.A.units + 70 < cLine) : CallR X (.builtin "sorted") (rSortP (gd X)) := by
  intro pins s σ H vs us Q I r h
  obtain ⟨O, a, ps, xs, rfl, hs, hr, ok, q⟩ := h
  obtain ⟨its, rv, hl, hz⟩ := I.list hs
  rw [Vals.ref1 r]
  obtain ⟨h1, h2, h3, h4⟩ := sortOk_of ok
  have hlen := reps_length hr
  have ef := prs_fst hlen
  refine PySem.W.sorted_data (bs := prs ps xs) (enc := fun b : PV => b.1) hl.isList (each_vals rv hlen) (each_reads I rv hr h3) (by rw [ef]; exact h1) (by rw [ef]; exact h2) (by unfold prs; rw [List.length_zip]; omega) (fun b hb => ?_) fun out ho eo => ?_
  · have hb1 : b.1 ∈ ps := by rw [← ef]; exact List.mem_map.mpr ⟨b, hb, rfl⟩
    have := SeqAt.depth_of_shaped (h3 _ hb1)
    omega
  · obtain ⟨ep, he'⟩ := PyProof.Rows.sortedAll_at s.heap its (List.toArray out)
    have rr := reps_sorted hr
    have hl2 : (((prs ps xs).mergeSort (PySem.W.dataLe false (fun b : PV => b.1))).map (·.2)).length ≤ sizeLine := by
      rw [List.length_map, List.length_mergeSort]; unfold prs; rw [List.length_zip]; omega
    exact ⟨.ref _, upd H (s.heap.objs.size + 1) (.lst (((prs ps xs).mergeSort (PySem.W.dataLe false (fun b : PV => b.1))).map (·.2))), I.laid (t' := s.toks) (fun _ _ => PyProof.Rows.sortedAll_old) (Nat.le_succ _) ⟨hl2, out, ep, vals_of_each eo, he'⟩, rfl, q _ _ (I.hok.fresh (Nat.le_succ _)) rr⟩
end
def sortS : List SV → List (List Int) → Option (SV × Bool)
  | [s], sto => (match seqL sto s with
    | some ps => if sortOk ps = true then some (.d (.list (sortP ps)), true) else none
    | none => none)
  | _, _ => none
theorem sem_sort {G : Gd} : CallSem G sortS (rSortP G) := by
  intro H hs O sto args vs sv b Q hk ho hr e q
  unfold sortS at e
  split at e
  · split at e
    · rename_i ps e1
      split at e
      · rename_i ok
        cases e
        obtain ⟨v, rfl, r⟩ := repRL1 hr
        obtain ⟨a, xs, rfl, h1, h2⟩ := seqL_is hk r e1
        exact ⟨O, a, ps, xs, rfl, h1, h2, ok, fun xs' p hp r' => q _ _ (same_new hp) (resE_list hp ho r')⟩
      · cases e
    · cases e
  · cases e
end PI
/-! PI25: small sets of ints, told by the rising list of their members. -/
namespace PI
open PySem PySem.Spec L2

/-- rising -/
def incr : List Int → Bool
  | [] => true
  | [_] => true
  | i :: j :: r => decide (i < j) && incr (j :: r)
def insI (k : Int) : List Int → List Int
  | [] => [k]
  | i :: r => if k < i then k :: i :: r else if k = i then i :: r else i :: insI k r
theorem incr_tail {i : Int} {r : List Int} (h : incr (i :: r) = true) : incr r = true := by
  cases r with
  | nil => rfl
  | cons j r => unfold incr at h; rw [Bool.and_eq_true] at h; exact h.2
theorem incr_lt : ∀ {i : Int} {r : List Int}, incr (i :: r) = true → ∀ j ∈ r, i < j
  | i, [], _, j, hj => by cases hj
  | i, k :: r, h, j, hj => by
    unfold incr at h
    rw [Bool.and_eq_true, decide_eq_true_eq] at h
    rcases List.mem_cons.mp hj with e | hj
    · subst e; exact h.1
    · have := incr_lt h.2 j hj; omega
theorem incr_pair : ∀ {ns : List Int}, incr ns = true → ns.Pairwise (· < ·)
  | [], _ => .nil
  | i :: r, h => .cons (incr_lt h) (incr_pair (incr_tail h))
theorem incr_nodup {ns : List Int} (h : incr ns = true) : ns.Nodup := (incr_pair h).imp fun h => by omega
theorem incr_of : ∀ {ns : List Int}, ns.Pairwise (· < ·) → incr ns = true
  | [], _ => rfl
  | [_], _ => rfl
  | i :: j :: r, h => by
    unfold incr
    rw [Bool.and_eq_true, decide_eq_true_eq]
    exact ⟨List.rel_of_pairwise_cons h List.mem_cons_self, incr_of h.tail⟩
theorem mem_insI {k j : Int} : ∀ {ns : List Int}, j ∈ insI k ns ↔ j = k ∨ j ∈ ns
  | [] => by simp [insI]
  | i :: r => by
    unfold insI
    split
    · simp
    · split
      · rename_i h; subst h; simp
      · rw [List.mem_cons, mem_insI, List.mem_cons]
        constructor
        · rintro (h | h | h)
          · exact .inr (.inl h)
          · exact .inl h
          · exact .inr (.inr h)
        · rintro (h | h | h)
          · exact .inr (.inl h)
          · exact .inl h
          · exact .inr (.inr h)
theorem incr_insI {k : Int} : ∀ {ns : List Int}, incr ns = true → incr (insI k ns) = true
  | [], _ => rfl
  | i :: r, h => by
    unfold insI
    split
    · rename_i hk
      unfold incr
      rw [Bool.and_eq_true, decide_eq_true_eq]
      exact ⟨hk, h⟩
    · split
      · exact h
      · rename_i h1 h2
        refine incr_of (.cons (fun j hj => ?_) (incr_pair (incr_insI (incr_tail h))))
        rcases mem_insI.mp hj with e | hj
        · omega
        · exact incr_lt h j hj
theorem len_insI {k : Int} : ∀ {ns : List Int}, incr ns = true → (insI k ns).length = if k ∈ ns then ns.length else ns.length + 1
  | [], _ => by simp [insI]
  | i :: r, h => by
    unfold insI
    split
    · rename_i hk
      have : k ∉ i :: r := fun hm => by
        rcases List.mem_cons.mp hm with e | hm
        · omega
        · have := incr_lt h k hm
          omega
      rw [if_neg this]; rfl
    · split
      · rename_i h1 h2
        rw [if_pos (by rw [h2]; exact List.mem_cons_self)]
      · rename_i h1 h2
        rw [List.length_cons, len_insI (incr_tail h), List.length_cons]
        by_cases hm : k ∈ r
        · rw [if_pos hm, if_pos (List.mem_cons_of_mem _ hm)]
        · rw [if_neg hm, if_neg (fun z => (List.mem_cons.mp z).elim h2 hm)]
/-- rising lists of the same members are the same -/
theorem incr_ext : ∀ {a b : List Int}, a.Pairwise (· < ·) → b.Pairwise (· < ·) → (∀ k, k ∈ a ↔ k ∈ b) → a = b
  | [], [], _, _, _ => rfl
  | [], j :: b, _, _, h => by have := (h j).mpr List.mem_cons_self; cases this
  | i :: a, [], _, _, h => by have := (h i).mp List.mem_cons_self; cases this
  | i :: a, j :: b, ha, hb, h => by
    have h1 : ∀ k ∈ a, i < k := fun k hk => List.rel_of_pairwise_cons ha hk
    have h2 : ∀ k ∈ b, j < k := fun k hk => List.rel_of_pairwise_cons hb hk
    have e : i = j := by
      have p := (h i).mp List.mem_cons_self
      have q := (h j).mpr List.mem_cons_self
      rcases List.mem_cons.mp p with p | p
      · exact p
      · rcases List.mem_cons.mp q with q | q
        · exact q.symm
        · have := h1 j q; have := h2 i p; omega
    subst e
    refine congrArg (i :: ·) (incr_ext (List.Pairwise.tail ha) (List.Pairwise.tail hb) fun k => ?_)
    constructor
    · intro hk
      rcases List.mem_cons.mp ((h k).mp (List.mem_cons_of_mem _ hk)) with e | z
      · have := h1 k hk; omega
      · exact z
    · intro hk
      rcases List.mem_cons.mp ((h k).mpr (List.mem_cons_of_mem _ hk)) with e | z
      · have := h2 k hk; omega
      · exact z
/-- a set of ints stands there -/
def SetI (G : Gd) (H : Hp) (a : Addr) (ns : List Int) : Prop := H a = some (SetO G.w a (fun k => decide (k ∈ ns)) ns.length)
theorem SetI.rep {G : Gd} {H : Hp} {a : Addr} {ns : List Int} (h : SetI G H a ns) (hn : ns.Nodup) : SetRep G H a (ns.map PyData.int) := .inl ⟨ns, rfl, hn, h⟩
theorem map_int_inj : ∀ {a b : List Int}, a.map PyData.int = b.map PyData.int → a = b
  | [], [], _ => rfl
  | [], _ :: _, e => by simp at e
  | _ :: _, [], e => by simp at e
  | i :: a, j :: b, e => by
    simp only [List.map_cons, List.cons.injEq, PyData.int.injEq] at e
    rw [e.1, map_int_inj e.2]
theorem setRep_ints {G : Gd} {H : Hp} {a : Addr} {ps : List P} {ns : List Int} (h : SetRep G H a ps) (e : intsP ps = some ns) (h0 : ns ≠ []) : SetI G H a ns := by
  have ep := intsP_eq e
  rcases h with ⟨ms, e1, e2, e3⟩ | ⟨L, e1, e2, e3, e4, e5⟩
  · rw [ep] at e1
    rw [map_int_inj e1]; exact e3
  · exfalso
    subst ep
    cases ns with
    | nil => exact h0 rfl
    | cons i r =>
      cases L with
      | nil => simp at e3
      | cons p L =>
        have := (e5 p.2).mpr (by simp)
        simp at this
theorem scan64 {n : Nat} (h : n < 64) : n < scanBound := Nat.lt_of_lt_of_le h (by decide)

/-! ### {e} -/
def tSet1 (w : World) (te : TE) : TE := fun σ H Q => ∀ p, H p = none → te σ (upd H p (SetO w p (fun _ => false) 0)) fun x H1 => ∃ k, x = .int k ∧ H1 p = some (SetO w p (fun _ => false) 0) ∧ Q (.ref p) (upd H1 p (SetO w p (fun j => false || decide (j = k)) 1))
theorem newSet_led {prog : Program} {w : World} {A : Around} {E : Value → Shared → Prop} {s : Shared} {Q : Value → Shared → Prop}
    (h : Q (.ref s.heap.objs.size) { s with heap := s.heap.push { cls := .type "set", dict := none, data := .set #[] 0 (.fresh 0 0 (!w.params.followText "set-order")) } }) : wpAny (model prog w) A (newSet (.type "set")) Q E s := by
  unfold newSet setsByText
  refine wpAny_bind (wpAny_bind (wpAny_askSetting (wpAny_pure ?_)))
  dsimp only
  simp only [newObj]
  exact wpAny_bind (wpAny_alloc (wpAny_pure h))
theorem disp_one {prog : Program} {w : World} {A : Around} {E : Value → Shared → Prop} {s : Shared} {b : Bool} {t : Sem Value} {Q : Value → Shared → Prop}
    (h : wpAny (model prog w) A t (fun v s' => wpAny (model prog w) A (setAdd s.heap.objs.size v) (fun _ s2 => Q (.ref s.heap.objs.size) s2) E s') E { s with heap := s.heap.push { cls := .type "set", dict := none, data := .set #[] 0 (.fresh 0 0 (!w.params.followText "set-order")) } }) :
    wpAny (model prog w) A (setDisplay .oneByOne b [(false, t)]) Q E s := by
  unfold setDisplay
  try dsimp only
  rw [if_neg (by decide)]
  refine wpAny_bind (newSet_led ?_)
  dsimp only
  refine wpAny_bind (wpAny_holding ?_)
  refine wpAny_bind (m := evalAll _) ?_
  show wpAny _ _ (evalAll [t]) _ _ _
  show wpAny _ _ (t >>= fun v => holding [v] (evalAll []) >>= fun r => pure (v :: r)) _ _ _
  refine wpAny_bind (thn h fun v s1 h1 => ?_)
  refine wpAny_bind (wpAny_holding (wpAny_pure (wpAny_pure ?_)))
  refine wpAny_bind (wpAny_holding ?_)
  refine wpAny_bind (thn (PySem.W.kds_for (u := false) (d := s.heap.objs.size) (Q := Q) (fun x P s2 hx => ?_) [v] s1 h1) fun _ s3 h3 => ?_)
  · refine wpAny_bind (thn hx fun _ s4 h4 => ?_)
    first | exact wpAny_pure ⟨rfl, h4⟩ | exact wpAny_bind (wpAny_pure (wpAny_pure ⟨rfl, h4⟩))
  · have h5 : Q (.ref s.heap.objs.size) s3 := by simpa [PySem.W.KdsFill] using h3
    rw [if_neg (by decide)]
    refine wpAny_pure ?_
    show wpAny _ _ (forIn [] PUnit.unit _ >>= _) _ _ _
    rw [List.forIn_nil]
    exact wpAny_bind (wpAny_pure (wpAny_pure (wpAny_pure h5)))
theorem pe_set1 {X : Cx} {e : Expr} {te : TE} {pos : Pos} (hcd : PySem.W.kdsCode X.K X.env.code = true) (he : PE X e te) (hst : starEach [e] X.env = [(false, eval e X.env)]) : PE X (.Set [e] 0 pos) (tSet1 X.w te) := by
  refine ⟨fun pins s σ H Q I h => ?_⟩
  rw [arm_eval_Set]
  refine wpAny_bind (wpAny_standAt ?_)
  refine wpAny_bind (PySem.W.kds_main I.kIn hcd fun b => ?_)
  rw [hst]
  have hp : H s.heap.objs.size = none := I.hok.fresh (Nat.le_refl _)
  refine disp_one (t := do let v ← eval e X.env; standAt pos; pure v) ?_
  have I1 : Inv X pins σ (upd H s.heap.objs.size (SetO X.w s.heap.objs.size (fun _ => false) 0)) { s with heap := s.heap.push { cls := .type "set", dict := none, data := .set #[] 0 (.fresh 0 0 (!X.w.params.followText "set-order")) } } :=
    I.laid (t' := s.toks) (fun b o e => Heap.get?_push_of_some _ e) (Nat.le_refl _) (setO_new (setR_fresh X.w))
  refine wpAny_bind (thn (he.run pins _ σ _ _ I1 (h _ hp)) fun u s1 ⟨x, H1, I2, r, k, ek, hk, q⟩ => ?_)
  subst ek
  obtain ⟨tk, rfl⟩ := r
  refine wpAny_bind (wpAny_standAt (wpAny_pure ?_))
  unfold setAdd
  refine wpAny_holding ?_
  refine wpAny_bind ((intKind X.prog X.w).pyHash (intKind_is X.prog X.w k tk) ?_)
  refine setR_add_hashed (s := { s1 with toks := s1.toks + 1 }) (show SetR X.w s1.heap _ _ _ from setO_get I2 hk) (by decide) fun h' sb new => ?_
  have he' : ∃ q, h'.get? s.heap.objs.size = some q := let ⟨o, _, _, _, ho, _⟩ := new; ⟨o, ho⟩
  exact ⟨.ref _, _, d_write (I2.tok (s1.toks + 1)) (t' := s1.toks + 1) (by rw [hk]; trivial) sb he' (setO_new new), rfl, q⟩
theorem setO_eq {w : World} {a : Addr} {S S' : Int → Bool} {n : Nat} (h : ∀ k, S k = S' k) : SetO w a S n = SetO w a S' n := by rw [funext h]
def xSet1 (f : Ex) : Ex := fun sl w => match f sl w with
  | some ((.d (.int k), _), w1) => some ((.s [.int k], true), w1)
  | _ => none
theorem plain_setO {w : World} {a : Addr} {S : Int → Bool} {n : Nat} : Plain (SetO w a S n) := plain_ext fun h' hf ⟨o, es, ep, t, e1, _, e2, _⟩ => by
  obtain ⟨vs, e3⟩ := hf a o e1
  rw [e2] at e3; cases e3
theorem pE_set1 {X : Cx} {e : Expr} {f : Ex} {pos : Pos} (hcd : PySem.W.kdsCode X.K X.env.code = true) (he : PE X e (tE (gd X) f)) (hst : starEach [e] X.env = [(false, eval e X.env)]) : PE X (.Set [e] 0 pos) (tE (gd X) (xSet1 f)) := (pe_set1 hcd he hst).imp fun σ H Q q => by
  obtain ⟨c, hs, oa, sl, w, sv, b, w', S, e, q⟩ := q
  unfold xSet1 at e
  split at e
  · rename_i k b1 w1 e1
    cases e
    intro p hp
    obtain ⟨g1, g2⟩ := He_none S hp
    have S1 := S.addNew (u := SetO X.w p (fun _ => false) 0) hp
    refine ⟨c.add p _, hs, oa, sl, w, _, b1, w', S1, e1, fun v H2 hs2 S2 x2 sb2 r2 => ?_⟩
    have hp2 : p ∉ hs2 := (S2.fd p (.inr rfl)).2
    have hH : H2 p = some (SetO X.w p (fun _ => false) 0) := S2.ext p _ hp2 add_he plain_setO.2.2.1
    refine ⟨k, repS_int (r2.rep S1 x2 sb2), hH, ?_⟩
    have S3 := (S2.addSet (u' := SetO X.w p (fun j => false || decide (j = k)) 1) plain_setO).drop g1 g2
    have x3 : Ext hs H hs2 (upd H2 p (SetO X.w p (fun j => false || decide (j = k)) 1)) := by
      have hne : ∀ a u, H a = some u → a ≠ p := fun a u e z => by rw [z, hp] at e; cases e
      have up : ∀ a u, H a = some u → upd H p (SetO X.w p (fun _ => false) 0) a = some u := fun a u e => by rw [upd_ne (hne a u e)]; exact e
      refine ⟨fun a u n e t => by rw [upd_ne (hne a u e)]; exact x2.same a u n (up a u e) t, x2.pre, fun a ha => ?_, fun a xs e => by rw [upd_ne (hne a _ e)]; exact x2.tup a xs (up a _ e), fun a o xs e => by rw [upd_ne (hne a _ e)]; exact x2.frz a o xs (up a _ e), fun a ps e => by
            obtain ⟨qs, q⟩ := x2.tbl a ps (up a _ e)
            exact ⟨qs, by rw [upd_ne (fun z => by rw [z, hH] at q; cases q)]; exact q⟩, fun t => tb_upd hH plain_setO.2.2.1 plain_setO.2.2.2 (x2.tb (tb_same up t))⟩
      rcases x2.new a ha with z | z
      · exact .inl z
      · refine .inr ?_
        cases q : H a with
        | none => rfl
        | some u => rw [up a u q] at z; cases z
    refine q _ _ hs2 S3 x3 sb2 ?_
    unfold ResE
    rw [if_pos rfl]
    refine ⟨p, rfl, hp, hp2, SetI.rep (ns := [k]) ?_ (by simp)⟩
    unfold SetI
    rw [upd_same]
    exact congrArg some (setO_eq fun j => by simp)
  · cases e
/-- s.add(e) -/
def sAdd (k : Nat) (f : Rx) : Sx := fun sl w => match f sl w with
  | some (.d (.int i), w1) => (match sl[k]? with
    | some (some (.s ps)) => (match intsP ps with
      | some ns => if k ∈ w1.own ∧ incr ns = true ∧ ns.length + 1 < 64 ∧ ns ≠ [] then some (.nx, sl.set k (some (.s ((insI i ns).map PyData.int))), w1) else none
      | none => none)
    | _ => none)
  | _ => none
theorem pS_add {X : Cx} {k : Nat} {o e : Expr} {f : Rx} {apos cpos pos : Pos} (ho : PE X o (tVar k)) (he : PE X e (tR (gd X) f)) (m : MForm X o "add" e apos cpos)
    (hs : swapsWith (.Call (.Attribute o "add" apos) [e] [] cpos) none pos.line X.env = pure false) : PS X (.Expr (.Call (.Attribute o "add" apos) [e] [] cpos) pos) (tS (gd X) (sAdd k f)) :=
  (ps_expr (pe_sadd ho (pA_1 he m.star) m.base m.few m.line m.star m.plain) hs).imp fun D σ H h => by
    obtain ⟨c, hs, oa, sl, w, o, sl', w', S, e, q⟩ := h
    unfold sAdd at e
    split at e
    · rename_i i w1 e1
      split at e
      · rename_i ps e2
        split at e
        · rename_i ns e3
          split at e
          · rename_i hc
            obtain ⟨hk, hi, hlt, h0⟩ := hc
            cases e
            have at0 : ∃ a, σ[k]? = some (some (.ref a)) ∧ SetI (gd X) H a ns ∧ (k ∈ w.own → a = oa k) := by
              by_cases hkw : k ∈ w.own
              · obtain ⟨sv, e5, e6, o⟩ := S.owns k hkw
                rw [e2] at e5; cases e5
                exact ⟨oa k, e6, setRep_ints o e3 h0, fun _ => rfl⟩
              · obtain ⟨v, e5, r⟩ := S.slot k _ e2 hkw
                obtain ⟨a, rfl, _, r⟩ := r
                exact ⟨a, e5, setRep_ints r e3 h0, fun z => absurd z hkw⟩
            obtain ⟨a, e5, sa, ha⟩ := at0
            refine ⟨_, e5, ⟨a, _, _, rfl, sa⟩, c, hs, oa, sl, w, _, w', S, e1, fun v H1 hs1 S1 x1 sb1 r1 => ?_⟩
            cases ha (sb1 k hk)
            obtain ⟨sv, e6, e7, o1⟩ := S1.owns k hk
            rw [e2] at e6; cases e6
            have s1 : SetI (gd X) H1 (oa k) ns := setRep_ints o1 e3 h0
            have new : SetI (gd X) (upd H1 (oa k) (SetO X.w (oa k) (fun j => decide (j ∈ ns) || decide (j = i)) (if decide (i ∈ ns) = true then ns.length else ns.length + 1))) (oa k) (insI i ns) := by
              unfold SetI
              rw [upd_same]
              have hl : (if decide (i ∈ ns) = true then ns.length else ns.length + 1) = (insI i ns).length := by
                rw [len_insI hi]
                by_cases hm : i ∈ ns
                · rw [if_pos (decide_eq_true hm), if_pos hm]
                · rw [if_neg (by simpa using hm), if_neg hm]
              rw [hl]
              refine congrArg some (setO_eq fun j => ?_)
              show (decide (j ∈ ns) || decide (j = i)) = decide (j ∈ insI i ns)
              rw [decide_eq_decide.mpr (mem_insI (k := i) (j := j) (ns := ns)), Bool.or_comm]
              exact (Bool.decide_or _ _).symm
            obtain ⟨S2, k2⟩ := S1.write (sv' := .s ((insI i ns).map PyData.int)) (u' := SetO X.w (oa k) (fun j => decide (j ∈ ns) || decide (j = i)) (if decide (i ∈ ns) = true then ns.length else ns.length + 1)) hk s1 plain_setO (SetI.rep new (incr_nodup (incr_insI hi)))
            exact ⟨oa k, i, _, ns.length, rfl, by rw [repR_int r1], s1, Nat.lt_of_lt_of_le hlt (by decide), q σ _ hs1 oa S2 ((x1.keep sb1).trans k2)⟩
          · cases e
        · cases e
      · cases e
    · cases e
/-- sorted(a set of ints) -/
def sortSetS : List SV → List (List Int) → Option (SV × Bool)
  | [.s ps], _ => (match intsP ps with
    | some ns => if incr ns = true ∧ ns.length < 64 ∧ ns ≠ [] then some (.d (.list ps), true) else none
    | none => none)
  | args, sto => sortS args sto
theorem sem_sortSet {G : Gd} : CallSem G sortSetS (fun vs H Q => rSortP G vs H Q ∨ rSortedSet G.w vs H Q) := by
  intro H hs O sto args vs sv b Q hk ho hr e q
  unfold sortSetS at e
  split at e
  · split at e
    · rename_i ns e1
      split at e
      · rename_i hc
        obtain ⟨hi, h64, h0⟩ := hc
        cases e
        obtain ⟨v, rfl, r⟩ := repRL1 hr
        obtain ⟨a, rfl, ra⟩ := repR_set r
        have sa := setRep_ints ra e1 h0
        refine .inr ⟨a, _, ns.length, rfl, sa, h64, fun ns' p h1 h2 h3 hp => ?_⟩
        have e2 : ns' = ns := incr_ext h1 (incr_pair hi) fun k => (h2 k).trans (by simp)
        subst e2
        rw [intsP_eq e1] at q
        exact q _ _ (same_new hp) (resE_list hp ho (reps_ints ns'))
      · cases e
    · cases e
  · exact .inl (sem_sort H hs O sto args vs sv b Q hk ho hr e q)
end PI
/-! PI26: what is raised: statements, defs and calls that may raise. -/
namespace PI
open PySem PySem.Spec L2
/-- an own exception: its class's name, a field of it -/
structure Exn where
  x : Str
  fp : Option (Str × P)
def ExRep (G : Gd) (H : Hp) (O : Addr → Prop) (e : Exn) (cls : Value) (d : Option Addr) : Prop :=
  (∃ C, G.mg e.x = some (.ref C) ∧ cls = .ref C) ∧ ∀ f p, e.fp = some (f, p) → ∃ dd fs v, d = some dd ∧ H dd = some (.xd fs) ∧ fs.lookup f = some v ∧ Rep G H O p v
theorem ExRep.less {G : Gd} {H : Hp} {O O' : Addr → Prop} {e : Exn} {cls : Value} {d : Option Addr} (h : ∀ a, O' a → O a) (r : ExRep G H O e cls d) : ExRep G H O' e cls d :=
  ⟨r.1, fun f p q => by
    obtain ⟨dd, fs, v, e1, e2, e3, r2⟩ := r.2 f p q
    exact ⟨dd, fs, v, e1, e2, e3, r2.keep (.less h) _ _⟩⟩
inductive OutX where
  | o (o : Out)
  | ex (e : Exn)
abbrev SxX := Slots → W → Option (OutX × Slots × W)
def tX (G : Gd) (E : WX) (f : SxX) : TS := fun D σ H => ∃ c hs oa sl w o sl' w', SRel G c hs oa sl w σ H ∧ f sl w = some (o, sl', w') ∧ match o with
  | .o o => ∀ σ' H' hs' oa', SRel G c hs' oa' sl' w' σ' H' → Keep (Off c hs w.own oa) H (Off c hs' w'.own oa') H' → EndS G c D σ' H' hs' o
  | .ex e => ∀ cls d σ' H' hs' oa', SRel G c hs' oa' sl' w' σ' H' → Keep (Off c hs w.own oa) H (Off c hs' w'.own oa') H' → ExRep G H' (Off c hs' w'.own oa') e cls d → E cls d σ' H'
def lift (f : Sx) : SxX := fun sl w => match f sl w with
  | some (o, sl', w') => some (.o o, sl', w')
  | none => none
variable {X : Cx} {E : WX}
theorem pX_lift {st : Stmt} {f : Sx} (h : PS X st (tS (gd X) f)) : PS X st (tX (gd X) E (lift f)) := h.imp fun D σ H q => by
  obtain ⟨c, hs, oa, sl, w, o, sl', w', S, e, q⟩ := q
  unfold lift at e
  split at e
  · rename_i o1 sl1 w1 e1
    cases e
    exact ⟨c, hs, oa, sl, w, o1, sl', w', S, e1, q⟩
  · cases e
theorem pXs_lift {st : List Stmt} {f : Sx} (h : PSs X st (tS (gd X) f)) : PSs X st (tX (gd X) E (lift f)) := h.imp fun D σ H q => by
  obtain ⟨c, hs, oa, sl, w, o, sl', w', S, e, q⟩ := q
  unfold lift at e
  split at e
  · rename_i o1 sl1 w1 e1
    cases e
    exact ⟨c, hs, oa, sl, w, o1, sl', w', S, e1, q⟩
  · cases e
def seqX (f g : SxX) : SxX := fun sl w => match f sl w with
  | some (.o .nx, sl1, w1) => g sl1 w1
  | r => r
theorem pX_cons {st : Stmt} {r : List Stmt} {f g : SxX} (h1 : PS X st (tX (gd X) E f)) (h2 : PSs X r (tX (gd X) E g)) : PSs X (st :: r) (tX (gd X) E (seqX f g)) := (pss_cons h1 h2).imp fun D σ H q => by
  obtain ⟨c, hs, oa, sl, w, o, sl', w', S, e, q⟩ := q
  unfold seqX at e
  split at e
  · rename_i sl1 w1 e1
    refine ⟨c, hs, oa, sl, w, _, sl1, w1, S, e1, fun σ' H' hs' oa' S' k => ?_⟩
    refine ⟨c, hs', oa', sl1, w1, o, sl', w', S', e, ?_⟩
    cases o with
    | o o => exact fun σ2 H2 hs2 oa2 S2 k2 => q σ2 H2 hs2 oa2 S2 (k.trans k2)
    | ex x => exact fun cls d σ2 H2 hs2 oa2 S2 k2 r2 => q cls d σ2 H2 hs2 oa2 S2 (k.trans k2) r2
  · rename_i hne
    refine ⟨c, hs, oa, sl, w, o, sl', w', S, e, ?_⟩
    cases o with
    | o o =>
      intro σ2 H2 hs2 oa2 S2 k2
      have z := q σ2 H2 hs2 oa2 S2 k2
      cases o with
      | nx => exact absurd e (by intro e; exact hne _ _ e)
      | bk => exact z
      | ct => exact z
      | rt sv b => exact z
    | ex x => exact q
def ifX (t : Bx) (f g : SxX) : SxX := fun sl w => match t sl w with
  | some (true, w1) => f sl w1
  | some (false, w1) => g sl w1
  | none => none
theorem pX_if {t : Expr} {a b : List Stmt} {h : Bx} {f g : SxX} {pos : Pos} (ht : PT X t (tC' (gd X) h)) (ha : PSs X a (tX (gd X) E f)) (hb : PSs X b (tX (gd X) E g)) : PS X (.If t a b pos) (tX (gd X) E (ifX h f g)) := (ps_if ht ha hb).imp fun D σ H q => by
  obtain ⟨c, hs, oa, sl, w, o, sl', w', S, e, q⟩ := q
  have go : ∀ {k : SxX} {w1 : W}, k sl w1 = some (o, sl', w') → ∀ H1 hs1, SRel (gd X) c hs1 oa sl w1 σ H1 → Keep (Off c hs w.own oa) H (Off c hs1 w1.own oa) H1 → tX (gd X) E k D σ H1 := by
    intro k w1 e1 H1 hs1 S1 kk
    refine ⟨c, hs1, oa, sl, w1, o, sl', w', S1, e1, ?_⟩
    cases o with
    | o o => exact fun σ2 H2 hs2 oa2 S2 k2 => q σ2 H2 hs2 oa2 S2 (kk.trans k2)
    | ex x => exact fun cls d σ2 H2 hs2 oa2 S2 k2 r2 => q cls d σ2 H2 hs2 oa2 S2 (kk.trans k2) r2
  unfold ifX at e
  split at e
  · rename_i w1 e1
    exact ⟨c, hs, oa, sl, w, true, w1, S, e1, fun H1 hs1 S1 x1 sb1 => go e H1 hs1 S1 (x1.keep sb1)⟩
  · rename_i w1 e1
    exact ⟨c, hs, oa, sl, w, false, w1, S, e1, fun H1 hs1 S1 x1 sb1 => go e H1 hs1 S1 (x1.keep sb1)⟩
  · cases e
end PI
set_option maxHeartbeats 2000000
/-! PI27: own exceptions below LookupError whose __init__ keeps one field. -/
namespace PI
open PySem PySem.Spec L2
abbrev leTail : List Value := [.type "LookupError", .type "Exception", .type "BaseException", .type "object"]
/-- the class at C, right below the own class at B, right below LookupError -/
structure LooC (K : PySem.W.Frag) (C B : Addr) : Prop where
  cls : ∃ nm q N bs sn sub ab col dd k0 k1 k2 k3 k5, K.lookup C = some (excClassObj nm q C N bs (.ref B :: leTail) true sn sub ab col dd k0 k1 k2 k3 k5 "LookupError.__new__")
  sa : PySem.W.findIn K (.ref C) "__setattr__" = some (some (.builtin "object.__setattr__"))
  exC : PySem.W.subIn K (.ref C) (.type "BaseException") = some true
  tyC : PySem.W.typeIn K (.ref C) = some (.type "type")
  kC : PySem.W.keepIn K (.ref C) = true
theorem le_has {B : Addr} (Y : String) : (Value.ref B :: leTail).contains (.type Y) = leTail.contains (.type Y) := by
  rw [List.contains_cons]; rfl
open Builtin Builtin.ObjectAttr in
theorem le_pass {B C : Addr} (self : Value) : refuseLoop self "__setattr__" (.ref C :: .ref B :: leTail) = pure () := by
  rw [refuseLoop_ref, refuseLoop_ref]
  exact F.store_LookupError.passes self
section
open PySem.W PySem.Calls PyProof.Rows PySem.HandSPX Builtin Builtin.ObjectAttr
variable {prog : Program} {w : World} {A : Around} {E : Value → Shared → Prop} {R : Result → Shared → Prop} {hp : Heap} {g : Array GenState} {d : Drawn} {t : Nat} {os : OsState}
/-- the first field of an exception that has no dict -/
theorem first_field {K : W.Frag} {n : Str} {tk : Tok} {y : Value} {x C B : Addr} {fv : Array Value} {cd : ClassData} (kin : K.In hp) (ox : hp.get? x = some { cls := .ref C, data := .fields fv }) (ec : W.clsIn K C = some cd) (em : cd.mro = .ref C :: .ref B :: leTail)
    (hd : cd.hasDict = true) (no : W.findIn K (.ref C) n = some none)
    (k : ∀ h2 t2 D, (∀ b o, b ≠ x → hp.get? b = some o → h2.get? b = some o) → hp.objs.size ≤ D → D ≠ x → h2.get? x = some { cls := .ref C, dict := some D, data := .fields fv } → h2.Ns1 D (fun z => if z = n then some y else none) → R (.ok (.ret .none)) ⟨h2, g, d, t2, os⟩) :
    codeAny (model prog w) A (.call (.builtin "object.__setattr__") ⟨[.ref x, .str n tk, y], []⟩) R ⟨hp, g, d, t, os⟩ := by
  have J : W.InstAt hp x { cls := .ref C, data := .fields fv } C none := ⟨ox, rfl, rfl, trivial⟩
  have S := F.store_object
  have hob : cd.mro.contains (.type "object") = true := by
    rw [em, List.contains_cons, List.contains_cons]
    show (_ || (_ || leTail.contains (.type "object"))) = true
    have : leTail.contains (.type "object") = true := by decide +kernel
    rw [this, Bool.or_true, Bool.or_true]
  have nx : x ≠ hp.objs.size := Nat.ne_of_lt (Heap.lt_size ox)
  have isO : W.Looks (model prog w) hp (isInstance (.ref x) (.type "object")) true := J.type.andThen (W.looks_mroIn kin (by unfold W.mroIn; rw [ec, Option.bind_some, if_neg (by rw [em]; exact Bool.false_ne_true), hob]))
  refine codeAny_call_builtin S.slot.plain S.entry (@W.check_slot (model prog w) _ _ ⟨hp, g, d, t, os⟩ "object.__setattr__" "object" "__setattr__" (.ref x) [.str n tk, y] [] _ S.kind S.split isO (S.args (.ref x) (.str n tk) y) ?_)
  have lm : W.Looks (model prog w) hp (mroOf (.ref C)) cd.mro := (W.looks_clsIn kin ec).andThen .now
  have lt : W.Looks (model prog w) hp (storeTaker? none) none := .now
  have lc : W.Looks (model prog w) hp (classData C) cd := W.looks_clsIn kin ec
  rw [W.osa_eq, refuse_eq]
  refine wpAny_bind (wpAny_bind (J.type.at (wpAny_bind (lm.at ?_))))
  rw [em, le_pass]
  refine wpAny_pure (wpAny_bind (J.type.at (wpAny_bind ((W.looks_findIn kin no).at (wpAny_bind (lt.at ?_))))))
  show wpAny _ _ (storeInOwnDict (.ref x) (.ref C) (.str n tk) n y false) _ _ _
  obtain ⟨c1, c2, c3, c4, c5, c6, c7, c8, c9, c10, c11⟩ := cd
  dsimp only at hd
  subst hd
  unfold storeInOwnDict ownDictForStores
  repeat (first | with_reducible refine store_in_new ?_ ?_ | with_reducible refine wpAny_loadPart_at ox ?_ | with_reducible refine lc.at ?_ | wp_step)
  · exact ⟨_, #[], _, (Heap.get?_update_ne _ _ _ _ nx.symm).trans (Heap.get?_push_at rfl rfl), rfl, fun e he => absurd he (by simp), fun _ => rfl⟩
  · intro h2 t2 hn hs
    have ox2 : (hp.push { cls := .type "dict", data := .dict #[] }).get? x = some { cls := .ref C, data := .fields fv } := Heap.get?_push_of_some _ ox
    refine k h2 t2 hp.objs.size (fun b o hb ho => ?_) (Nat.le_refl _) nx.symm ?_ hn
    · exact (hs.2 b (Nat.ne_of_lt (Heap.lt_size ho))).trans ((Heap.get?_update_ne _ _ _ _ hb).trans (Heap.get?_push_of_some _ ho))
    · exact (hs.2 x nx).trans (Heap.get?_update_self _ ox2 rfl)
end

section
open PyProof.Rows
variable {X : Cx} {pins : List (Addr × Obj)} {σ : L2.St} {H : Hp} {s : Shared} {a C B : Addr} {f : Str} {y : V} {u : Value} {E : Value → Shared → Prop} {A : Around}
theorem LooC.at_ {K : PySem.W.Frag} {C B : Addr} (T : LooC K C B) : ∃ cd, PySem.W.clsIn K C = some cd ∧ cd.mro = .ref C :: .ref B :: leTail ∧ cd.hasDict = true := by
  obtain ⟨nm, q, N, bs, sn, sub, ab, col, dd, k0, k1, k2, k3, k5, hC⟩ := T.cls
  exact ⟨{ name := nm, bases := bs, mro := .ref C :: .ref B :: leTail, ns := N, qualname := q, hasDict := true, slotNames := sn, subclasses := sub, abstract := ab, collection := col, hasDel := false }, by unfold PySem.W.clsIn; rw [hC] <;> rfl, rfl, rfl⟩
/-- self.f = y, nothing stored yet -/
theorem lo_store {Q : Unit → Shared → Prop} (T : LooC X.K C B) (I : Inv X pins σ H s) (e : H a = some (exo a C none)) (no : PySem.W.findIn X.K (.ref C) f = some none) (ry : RelV y u)
    (k : ∀ D s2, H D = none → D ≠ a → Inv X pins σ (upd (upd H D (exd D [(f, y)])) a (exo a C (some D))) s2 → Q () s2) : wpAny (model X.prog X.w) A (setAttr (.ref a) f u) Q E s := by
  obtain ⟨cd, ec, em, hd⟩ := T.at_
  obtain ⟨t1, oa⟩ := exo_at I.hok e
  obtain ⟨hp, g, dr, tk, os⟩ := s
  refine PySem.W.set_plain I.kIn (ox := { cls := .ref C, dict := none, data := .fields #[.ref t1, .none, .none, .none, .bool false, .none] }) (od := none) ⟨oa, rfl, rfl, trivial⟩ T.sa ?_
  refine first_field I.kIn oa ec em hd no (fun h2 t2 D kp dn da o2 ns => ?_)
  have nD : H D = none := I.hok.fresh dn
  have neD : ∀ {b : Addr} {o : Obj}, hp.get? b = some o → b ≠ D := fun {b o} q => Nat.ne_of_lt (Nat.lt_of_lt_of_le (Heap.lt_size q) dn)
  have neA : ∀ {b : Addr}, H b = none → b ≠ a := fun {b} n z => by rw [z, e] at n; cases n
  have U : Un X.fs [] H (upd (upd H D (exd D [(f, y)])) a (exo a C (some D))) hp h2 := by
    refine ⟨fun b o q n _ _ => kp b o (neA n) q, fun b o q n _ _ => ⟨o.slots, kp b o (neA n) q⟩, fun b o q n _ => ?_, fun b o q _ => ?_, fun b xs q => ?_, fun b o v q => ?_, fun b ps q => ⟨#[], ?_⟩⟩
    · rw [upd_ne (neA n), upd_ne (neD q)]; exact n
    · by_cases hb : b = a
      · exact ⟨_, by rw [hb]; exact o2⟩
      · exact ⟨o, kp b o hb q⟩
    · rw [upd_ne (at_ne e q exo_tup), upd_ne (ne_of_none q nD)]; exact q
    · rw [upd_ne (at_ne e q exo_frz), upd_ne (ne_of_none q nD)]; exact q
    · rw [upd_ne (at_ne e q exo_tbl), upd_ne (ne_of_none q nD), q]; simp
  refine k D _ nD da (I.un (t' := t2) U fun b o q => ?_)
  by_cases hb : b = a
  · subst hb
    rw [upd_same] at q
    cases q
    exact exo_ok o2
  · rw [upd_ne hb] at q
    by_cases hD : b = D
    · subst hD
      rw [upd_same] at q
      cases q
      exact exd_ok ns (relO_put (fs := []) ry fun g => True.intro)
    · rw [upd_ne hD] at q
      refine (I.hok b o q).stay (fun c v hc z => kp c v ?_ z) (fun c hc => ?_) fun c xs hc => ?_
      · rcases hc with hc | hc
        · rw [hc]; exact hb
        · exact at_ne e hc exo_own
      · rw [upd_ne (at_ne e hc exo_own), upd_ne (ne_of_none hc nD)]; exact hc
      · rw [upd_ne (at_ne e hc exo_tup), upd_ne (ne_of_none hc nD)]; exact hc
/-- LookupError.__init__(self, ..) -/
theorem lo_init {us : List Value} {Q : Value → Shared → Prop} (T : LooC X.K C B) (I : Inv X pins σ H s) (e : H a = some (exo a C none)) (hl : us.length ≤ sizeLine) (k : ∀ s2, Inv X pins σ H s2 → Q .none s2) :
    wpAny (model X.prog X.w) A (call (.builtin "LookupError.__init__") (.ref a :: us)) Q E s := by
  obtain ⟨nm, q, N, bs, sn, sub, ab, col, dd, k0, k1, k2, k3, k5, hC⟩ := T.cls
  obtain ⟨t1, oa⟩ := exo_at I.hok e
  obtain ⟨hp, g, dr, tk, os⟩ := s
  refine wpAny_call (PySem.HandSPX.init_base F.excBase_LookupError (fun Y => le_has Y) (I.kIn _ _ hC) oa hl fun h2 t2 kp o2 => ?_)
  have J := I.write (t' := tk) (x := a) (e := a) (o := exo a C none) (by rw [e]; exact True.intro) (.inl rfl) kp ⟨_, o2⟩ (exo_ok o2)
  have eu : upd H a (exo a C none) = H := funext fun b => by
    by_cases hb : b = a
    · rw [hb, upd_same, e]
    · rw [upd_ne hb]
  rw [eu] at J
  exact k _ J
/-- what is known of the own class at B: its __init__ is LookupError's -/
structure BasI (K : PySem.W.Frag) (B : Addr) : Prop where
  rd : PySem.W.readsIn K B (.type "type") = true
  ga : PySem.W.specialIn K (.ref B) "__getattribute__" = some (some (.builtin "type.__getattribute__"))
  ini : PySem.W.findCls K (.ref B) (.type "type") "__init__" = some (.val (.builtin "LookupError.__init__"))
def tWI (K : PySem.W.Frag) (ta : TA) : TE := fun σ H Q => ta σ H fun vs H1 => ∃ (a C B : Addr) (ws : List V), vs = .ref a :: ws ∧ ws.length ≤ 1000 ∧ LooC K C B ∧ H1 a = some (exo a C none) ∧ Q .non H1
theorem pe_winit {pl : Sem Bool} {x : Str} {ob : Addr} {e : Expr} {es : List Expr} {ta : TA} {p1 p2 pos : Pos} (hg : Gl X x) (hm : X.mg x = some (.ref ob)) (hb : BasI X.K ob) (ha : PA X (e :: es) ta)
    (hc : eval (.Call (.Attribute (.Name x p1) "__init__" p2) (e :: es) [] pos) X.env = (do
      let ov ← eval (.Name x p1) X.env
      standAt p2.atName
      let (g, before) ← holding [ov] (getMethod ov "__init__" pl)
      callWith pos g before (backTo pos (starEach (e :: es) X.env)) (backToKw pos (keywordEach [] X.env))))
    (hdb : (x == ("__debug__" : Str)) = false) (he : starEach (e :: es) X.env = (false, eval e X.env) :: starEach es X.env) (hpl : (backTo pos (starEach es X.env)).any (·.1) = false) :
    PE X (.Call (.Attribute (.Name x p1) "__init__" p2) (e :: es) [] pos) (tWI X.K ta) := by
  refine ⟨fun pins s σ H Q I h => ?_⟩
  refine PySem.W.methodCall_KW (ld_glob I hg hm ?_ hdb) hc
  refine PySem.W.method_cls I.kIn hb.ga (PySem.W.cls_value I.kIn hb.rd hb.ini (by decide +kernel) ?_)
  show wpAny _ _ (callWith pos (Value.builtin "LookupError.__init__") [] (backTo pos (starEach (e :: es) X.env)) []) _ _ _
  refine PyProof.Rows.callWith_method1 (thn (ha.run pos pins _ σ H _ (I.tok _) h) fun us s1 ⟨vs, H1, I1, r1, a, C, B, ws, ev, hl, T, ea, q⟩ => ?_) he hpl
  subst ev
  cases r1 with
  | @cons _ u0 _ ur ra rw' =>
    obtain rfl : u0 = Value.ref a := ra
    exact lo_init T I1 ea (by rw [← Paired.length rw', sizeLine_eq]; omega) fun s2 J => ⟨.non, H1, J, rfl, q⟩
def tLst (K : PySem.W.Frag) (f : Str) (to te : TE) : TS := fun D σ H => te σ H fun y H1 => to σ H1 fun x H2 => ∃ a C B : Addr, x = .ref a ∧ LooC K C B ∧ PySem.W.findIn K (.ref C) f = some none ∧ H2 a = some (exo a C none) ∧
  ∀ D2, H2 D2 = none → D2 ≠ a → D.nx σ (upd (upd H2 D2 (exd D2 [(f, y)])) a (exo a C (some D2)))
theorem ps_lst0 {o e : Expr} {to te : TE} {p' pos : Pos} (ho : PE X o to) (he : PE X e te) (hs : swapsWith e (some (.Attribute o f p')) pos.line X.env = pure false) : PS X (.Assign [.Attribute o f p'] e pos) (tLst X.K f to te) := by
  refine ⟨fun pins s σ H D I h => ?_⟩
  refine plainObj_wpAny_Assign_Attribute (thn (he.run pins s σ H _ I h) fun v s1 ⟨y, H1, I1, r1, q1⟩ => thn (ho.run pins s1 σ H1 _ I1 q1) fun u s2 ⟨x, H2, I2, r2, a, C, B, ex, T, no, ea, q⟩ => ?_) hs
  subst ex
  obtain rfl : u = Value.ref a := r2
  exact lo_store T I2 ea no r1 fun D2 s3 n ne J => ⟨σ, _, J, q D2 n ne⟩
/-- what such an __init__ does -/
def spIni (K : PySem.W.Frag) (f : Str) : Sp := fun vs H Q _ => ∃ (a C B : Addr) (y : V), vs = [.ref a, y] ∧ LooC K C B ∧ PySem.W.findIn K (.ref C) f = some none ∧ H a = some (exo a C none) ∧ ∀ D, H D = none → D ≠ a → Q .non (upd (upd H D (exd D [(f, y)])) a (exo a C (some D)))
/-- C(e): an exception with one field -/
theorem pmk_one {CX : CXT} {x : Str} {fI : Addr} {k : Nat} {fd : FuncData} {ps : List Str} {e : Expr} {ta : TE} {p pos : Pos} (T : LooC X.K C B) (no : PySem.W.findIn X.K (.ref C) f = some none) (iC : PySem.W.findIn X.K (.ref C) "__init__" = some (some (.ref fI))) (tI : PySem.W.typeIn X.K (.ref fI) = some (.type "function"))
    (F1 : FnOk X.prog X.w X.K X.mg X.base CX k fI fd ps (spIni X.K f)) (hr : Room (k + 1) X.A) (hb : Binds X.K fd ps []) (hx : Passes CX X (fun _ _ _ => False)) (hg : Gl X x) (hm : X.mg x = some (.ref C)) (ha : PE X e ta)
    (hdb : (x == ("__debug__" : Str)) = false) (he : starEach [e] X.env = (false, eval e X.env) :: starEach [] X.env) :
    PMk X (.Call (.Name x p) [e] [] pos) (fun σ H Q => ta σ H fun y H1 => ∀ D, H1 D = none → Q (.ref C) (some D) (upd H1 D (.xd [(f, y)]))) := by
  intro pins s σ H Q I h
  obtain ⟨nm, q, N, bs, sn, sub, ab, col, dd, k0, k1, k2, k3, k5, hC⟩ := T.cls
  refine wpAny_Call_Name_kw (ld_glob I hg hm ?_ hdb)
  refine PySem.W.callWith_K (h₀ := X.base) I.ok.mod.kin T.kC ?_ he rfl
  rw [he]
  show wpAny _ _ (spliced ((false, eval e X.env) :: backTo pos (starEach [] X.env))) _ _ s
  refine Calls.spliced_cons (thn (ha.run pins s σ H _ I h) fun u s1 ⟨y, H1, I1, ry, q1⟩ => ?_)
  refine Calls.spliced_nil ⟨I1.kIn, ?_⟩
  · show wpAny _ _ (call (.ref C) [u]) _ _ _
    obtain ⟨hp, g, dr, tk, os⟩ := s1
    have lt : hp.objs.size ≤ hp.objs.size + 1 := Nat.le_succ _
    have n1 : H1 (hp.objs.size + 1) = none := I1.hok.fresh lt
    have kk : ∀ b o, hp.get? b = some o → ((hp.push (PySem.W.kdv_tup [u])).push (PySem.HandSPX.excO C hp.objs.size)).get? b = some o := fun b o e => Heap.get?_push_of_some _ (Heap.get?_push_of_some _ e)
    have og : ((hp.push (PySem.W.kdv_tup [u])).push (PySem.HandSPX.excO C hp.objs.size)).get? (hp.objs.size + 1) = some (PySem.HandSPX.excO C hp.objs.size) := by heap_get
    have I2 : Inv X pins σ (upd H1 (hp.objs.size + 1) (exo (hp.objs.size + 1) C none)) ⟨(hp.push (PySem.W.kdv_tup [u])).push (PySem.HandSPX.excO C hp.objs.size), g, dr, tk, os⟩ :=
      I1.laid (t' := tk) (a := hp.objs.size + 1) (o := exo (hp.objs.size + 1) C none) (h' := (hp.push (PySem.W.kdv_tup [u])).push (PySem.HandSPX.excO C hp.objs.size)) kk lt (exo_ok og)
    have r2 : Vals [V.ref (hp.objs.size + 1), y] [Value.ref (hp.objs.size + 1), u] := .cons rfl (.cons ry .nil)
    have hq : spIni X.K f [V.ref (hp.objs.size + 1), y] (upd H1 (hp.objs.size + 1) (exo (hp.objs.size + 1) C none)) (fun v H2 => v = .non ∧ ∃ d fs, H2 (hp.objs.size + 1) = some (exo (hp.objs.size + 1) C (some d)) ∧ H2 d = some (exd d fs) ∧ H1 d = none ∧ Q (.ref C) (some d) (upd (del H2 (hp.objs.size + 1)) d (.xd fs))) (fun _ _ _ => False) := by
      refine ⟨_, C, B, y, rfl, T, no, upd_same, fun D nD neD => ?_⟩
      have nD1 : H1 D = none := by rw [upd_ne neD] at nD; exact nD
      refine ⟨rfl, D, _, upd_same, by rw [upd_ne neD, upd_same], nD1, ?_⟩
      have eH : upd (del (upd (upd (upd H1 (hp.objs.size + 1) (exo (hp.objs.size + 1) C none)) D (exd D [(f, y)])) (hp.objs.size + 1) (exo (hp.objs.size + 1) C (some D))) (hp.objs.size + 1)) D (.xd [(f, y)]) = upd H1 D (.xd [(f, y)]) := funext fun b => by
        by_cases hb : b = D
        · rw [hb, upd_same, upd_same]
        · rw [upd_ne hb, upd_ne hb]
          by_cases hb2 : b = hp.objs.size + 1
          · rw [hb2, del_same, n1]
          · rw [del_ne hb2, upd_ne hb2, upd_ne hb, upd_ne hb2]
      rw [eH]
      exact q1 D nD1
    have hl2 : ([Value.ref (hp.objs.size + 1), u] ++ ([] : List Value)).length = ps.length := by
      have e := F1.len _ _ _ _ hq
      rw [← e]; rfl
    refine wpAny_call (PySem.HandSPX.call_own F.excBase_LookupError (fun Y => le_has Y) (I1.kIn _ _ hC) (PySem.W.looks_findIn I1.kIn iC) (fun self => PySem.W.bind_fn I1.kIn self tI) (by show 1 ≤ sizeLine; rw [sizeLine_eq]; omega)
      (codeAny_mono (F1.run _ X.stack _ _ ⟨[Value.ref (hp.objs.size + 1), u], []⟩ [Value.ref (hp.objs.size + 1), u] _ _ (fun _ _ _ => False) (hr.make C [u] []) (I2.env0.make C [u] []) (hb _ [Value.ref (hp.objs.size + 1), u] I2.kIn hl2) r2 hq) fun r s2 hq2 => ?_))
    cases r with
    | error er => exact hx pins σ _ _ er s2 I2 hq2
    | ok fl =>
      cases fl with
      | ret v =>
        obtain ⟨v', H2, os2, bare2, un2, hok2, rv, ev, d, fs, ea, ed, hd1, q2⟩ := hq2
        subst ev
        obtain ⟨h2, g2, d2, t2, os'⟩ := s2
        exact ⟨rv, mk_end (raises_own T.exC T.tyC) I1 lt kk un2 hok2 os2 bare2 ea ed hd1 q2⟩
      | next => exact False.elim hq2
      | brk => exact False.elim hq2
      | cont => exact False.elim hq2
end
end PI
/-! PI28: raise; defs that may raise, their calls. -/
namespace PI
open PySem PySem.Spec L2
variable {X : Cx} {E : WX}
/-- raise C('..') -/
def sRs (x : Str) : SxX := fun sl w => some (.ex ⟨x, none⟩, sl, w)
theorem pX_raise0 {x m : Str} {j : Nat} {C : Addr} {bmB : List Value} {B newId initId : String} {p p2 pc pos : Pos} (hc : X.calm = true) (tk : Takes X E) (F : ExcBaseFacts B newId initId bmB) (q : PySem.W.excIn X.K C bmB newId = true) (gC : X.mg x = some (.ref C)) (kC : PySem.W.keepIn X.K (.ref C) = true)
    (h1 : PySem.W.subIn X.K (.ref C) (.type "BaseException") = some true) (h2 : PySem.W.typeIn X.K (.ref C) = some (.type "type")) (hg : Gl X x) (hdb : (x == ("__debug__" : Str)) = false) :
    PS X (.Raise (some (.Call (.Name x p) [.Constant (.str m) j p2] [] pc)) none pos) (tX (gd X) E (sRs x)) := (ps_raise hc tk (pmk_own F q gC kC (raises_own h1 h2) hg hdb)).imp fun D σ H h => by
  obtain ⟨c, hs, oa, sl, w, o, sl', w', S, e, z⟩ := h
  cases e
  exact z (.ref C) none σ H hs oa S .refl ⟨⟨C, gC, rfl⟩, fun f p q => by cases q⟩
/-- raise C(e), the value kept in the field f -/
def sRsF (x f : Str) (g : Ex) : SxX := fun sl w => match g sl w with
  | some ((.d p, _), w1) => some (.ex ⟨x, some (f, p)⟩, sl, w1)
  | _ => none
theorem pX_raiseF {CX : CXT} {x f : Str} {e : Expr} {g : Ex} {C B fI : Addr} {k : Nat} {fd : FuncData} {ps : List Str} {p pc pos : Pos} (hc : X.calm = true) (tk : Takes X E) (T : LooC X.K C B) (no : PySem.W.findIn X.K (.ref C) f = some none) (iC : PySem.W.findIn X.K (.ref C) "__init__" = some (some (.ref fI)))
    (tI : PySem.W.typeIn X.K (.ref fI) = some (.type "function")) (F1 : FnOk X.prog X.w X.K X.mg X.base CX k fI fd ps (spIni X.K f)) (hr : Room (k + 1) X.A) (hb : Binds X.K fd ps []) (hx : Passes CX X (fun _ _ _ => False)) (hg : Gl X x) (gC : X.mg x = some (.ref C))
    (ha : PE X e (tE (gd X) g)) (hdb : (x == ("__debug__" : Str)) = false) (he : starEach [e] X.env = (false, eval e X.env) :: starEach [] X.env) :
    PS X (.Raise (some (.Call (.Name x p) [e] [] pc)) none pos) (tX (gd X) E (sRsF x f g)) := (ps_raise hc tk (pmk_one T no iC tI F1 hr hb hx hg gC ha hdb he)).imp fun D σ H h => by
  obtain ⟨c, hs, oa, sl, w, o, sl', w', S, e, z⟩ := h
  unfold sRsF at e
  split at e
  · rename_i p b w1 e1
    cases e
    refine ⟨c, hs, oa, sl, w, _, _, w', S, e1, fun v H1 hs1 S1 x1 sb1 r1 d nd => ?_⟩
    have sm := same_new (o := .xd [(f, v)]) nd
    have r2 : Rep (gd X) H1 (Off c hs1 w'.own oa) p v := r1.rep S x1 sb1
    refine z (.ref C) (some d) σ _ hs1 oa (S1.grow sm) ((x1.keep sb1).trans (.grow sm)) ⟨⟨C, gC, rfl⟩, fun f' p' q => ?_⟩
    cases q
    exact ⟨d, _, v, rfl, upd_same, by rw [List.lookup_cons_self], r2.keep (.grow sm) _ _⟩
  · cases e

/-! ### defs that may raise -/
inductive ResX where
  | rt (sv : SV) (b : Bool)
  | ex (e : Exn)
abbrev FnX := List SV → List (List Int) → Option (ResX × List (List Int))
def spX (G : Gd) (n : Nat) (F : FnX) : Sp := fun vs H Q E => ∃ (hs : List Addr) (F0 : Addr → Prop) (args : List SV) (sto : List (List Int)) (r : ResX) (sto' : List (List Int)), vs.length = n ∧ HsOk H hs sto ∧ Tb H ∧ hs.Nodup ∧ (∀ a, F0 a → (∃ u, H a = some u) ∧ a ∉ hs) ∧
  RepL G H hs (fun a => F0 a ∨ a ∈ hs) args vs ∧ F args sto = some (r, sto') ∧ match r with
    | .rt r b => ∀ v H' hs', Ext hs H hs' H' → HsOk H' hs' sto' → hs'.Nodup → RetR G ⟨H, F0, hs⟩ H' hs' r b v → Q v H'
    | .ex e => ∀ cls d H' hs', Ext hs H hs' H' → HsOk H' hs' sto' → hs'.Nodup → ExRep G H' (fun a => F0 a ∨ a ∈ hs') e cls d → E cls d H'
def bodyX (n N : Nat) (f : SxX) : FnX := fun args sto => if args.length = n then (match f (args.map some ++ List.replicate (N - n) none) ⟨[], sto⟩ with
  | some (.o (.rt sv b), _, w) => some (.rt sv b, w.sto)
  | some (.o .nx, _, w) => some (.rt (.d .none) false, w.sto)
  | some (.ex e, _, w) => some (.ex e, w.sto)
  | _ => none) else none
theorem bodyX_ok {G : Gd} {H : Hp} {f : SxX} {N : List Str} {n : Nat} {vs : List V} {Q : VK} {E : XK} (h : spX G n (bodyX n N.length f) vs H Q E) : tX G (fun cls d _ H' => E cls d H') f { nx := fun _ H' => Q .non H', rt := Q } (L2.start N vs) H := by
  obtain ⟨hs, F0, args, sto, r, sto', hl, h1, hT, h2, h3, h4, e, q⟩ := h
  unfold bodyX at e
  split at e
  · rename_i hal
    have S0 : SRel G ⟨H, F0, hs⟩ hs (fun _ => 0) (args.map some ++ List.replicate (N.length - n) none) ⟨[], sto⟩ (L2.start N vs) H := srel_start (n := n) hl h1 hT h2 h3 h4
    split at e
    · rename_i sv b2 sl' w' e1
      cases e
      exact ⟨_, hs, _, _, _, _, sl', w', S0, e1, fun σ' H' hs' oa' S' k v rr => q v H' hs' (ext_end h1 S') S'.sto S'.hnd rr⟩
    · rename_i sl' w' e1
      cases e
      refine ⟨_, hs, _, _, _, _, sl', w', S0, e1, fun σ' H' hs' oa' S' k => q .non H' hs' (ext_end h1 S') S'.sto S'.hnd ?_⟩
      unfold RetR
      rw [if_neg Bool.false_ne_true]
      show Rep _ _ _ _ _
      rw [Rep]
    · rename_i x sl' w' e1
      cases e
      exact ⟨_, hs, _, _, _, _, sl', w', S0, e1, fun cls d σ' H' hs' oa' S' k rr => q cls d H' hs' (ext_end h1 S') S'.sto S'.hnd (rr.less fun a z => z.elim .inl fun z => .inr (.inl z))⟩
    · cases e
  · cases e
structure CalleeX (P : Program) (w : World) (K : PySem.W.Frag) (mg : Str → Option Value) (base : Heap) (x : Str) (k n : Nat) (F : FnX) : Prop where
  ex : ∃ (f : Addr) (fd : FuncData) (ps : List Str), mg x = some (.ref f) ∧ PySem.W.keepIn K (.ref f) = true ∧ Binds K fd ps [] ∧ ps.length = n ∧ FnOk P w K mg base (L2.CX P w) k f fd ps (spX ⟨K, P, w, mg⟩ n F)
theorem CalleeX.mono {P : Program} {w : World} {K : PySem.W.Frag} {mg : Str → Option Value} {base : Heap} {x : Str} {j k n : Nat} {F : FnX} (c : CalleeX P w K mg base x j n F) (h : j ≤ k) : CalleeX P w K mg base x k n F := by
  obtain ⟨f, fd, ps, h1, h2, h3, h4, h5⟩ := c.ex
  exact ⟨f, fd, ps, h1, h2, h3, h4, h5.mono h⟩
theorem calleeX_of {P : Program} {w : World} {K : PySem.W.Frag} {mg : Str → Option Value} {base : Heap} {y x qual : Str} {params : Arguments} {body : List Stmt} {scope : Scope} {f : Addr} {fd : FuncData} {N ps : List Str} {k n : Nat} {b : SxX} (F : FunD K x qual params body scope [] [] f fd) (S : FnScope N ps scope) (hm : mg y = some (.ref f)) (hb : Binds K fd ps []) (hl : ps.length = n)
    (h : ∀ (cdv : Value) (A : Around) (outer : List Env) (s : Shared) (H : Hp) (E : XK), PySem.W.kdsCode K cdv = true → Room k (A.deeper (PyProof.Rows.envOfC qual scope s.heap.objs.size f cdv)) → Takes (cxOf (L2.CX P w) P w K mg base N qual scope f cdv A outer s H E) (fun cls d _ H' => E cls d H') →
      PSs (cxOf (L2.CX P w) P w K mg base N qual scope f cdv A outer s H E) body (tX ⟨K, P, w, mg⟩ (fun cls d _ H' => E cls d H') b)) :
    CalleeX P w K mg base y (k + 1) n (bodyX n N.length b) := by
  obtain ⟨oc, od, dV, kV, doc, pm, an, cdv, ct, osl, e, lk, hcd, _, _⟩ := F.ex
  refine ⟨f, fd, ps, hm, F.kp, hb, hl, ?_⟩
  subst e
  exact fn_of lk hcd S (fun vs H Q E q => by obtain ⟨_, _, _, _, _, _, q, _⟩ := q; rw [q, hl]) fun A outer s H vs Q E hr q => ⟨_, h cdv A outer s H E (kds_of_code hcd) hr (takes_of rfl rfl rfl rfl), bodyX_ok q⟩

/-! ### their calls -/
/-- an expression that may raise -/
abbrev ExX := Slots → W → Option (ResX × W)
def tEX (G : Gd) (E : WX) (f : ExX) : TE := fun σ H Q => ∃ c hs oa sl w r w', SRel G c hs oa sl w σ H ∧ f sl w = some (r, w') ∧ match r with
  | .rt sv b => ∀ v H' hs', SRel G c hs' oa sl w' σ H' → Ext hs H hs' H' → Sub w' w → ResE G H H' hs' (Off c hs' w'.own oa) sv b v → Q v H'
  | .ex e => ∀ cls d H' hs', SRel G c hs' oa sl w' σ H' → Ext hs H hs' H' → Sub w' w → ExRep G H' (Off c hs' w'.own oa) e cls d → E cls d σ H'
def xCallX (F : FnX) (fs : List Ex) : ExX := fun sl w => match evL fs sl w with
  | some (ss, w1) => (match F ss w1.sto with
    | some (r, sto') => some (r, { w1 with sto := sto' })
    | none => none)
  | none => none
theorem tEX_call {G : Gd} {F : FnX} {fs : List Ex} {σ : L2.St} {H : Hp} {Q : VK} (h : tEX G E (xCallX F fs) σ H Q) : tL G fs σ H fun vs H1 => spX G fs.length F vs H1 Q (fun cls d H' => E cls d σ H') := by
  obtain ⟨c, hs, oa, sl, w, r, w', S, e, q⟩ := h
  unfold xCallX at e
  split at e
  · rename_i ss w1 e1
    split at e
    · rename_i r2 sto' e2
      cases e
      refine ⟨c, hs, oa, sl, w, ss, w1, S, e1, fun vs H1 hs1 S1 x1 sb1 r1 => ?_⟩
      have hF : ∀ a, (c.F a ∨ ∃ i, i ∈ w1.own ∧ oa i = a) → (∃ u, H1 a = some u) ∧ a ∉ hs1 := fun a z => by
        rcases z with z | ⟨i, hi, rfl⟩
        · exact ⟨S1.off_some (.inl z), (S1.fd a z).2⟩
        · exact ⟨S1.some_own hi, S1.hown i hi⟩
      have kk : Keep (Off c hs1 w1.own oa) H1 (fun a => (c.F a ∨ ∃ i, i ∈ w1.own ∧ oa i = a) ∨ a ∈ hs1) H1 := .less fun a z => by
        rcases z with (z | z) | z
        · exact .inl z
        · exact .inr (.inr z)
        · exact .inr (.inl z)
      have less : ∀ hs2 a, Off c hs2 w1.own oa a → (c.F a ∨ ∃ i, i ∈ w1.own ∧ oa i = a) ∨ a ∈ hs2 := fun hs2 a z => by
        rcases z with z | z | z
        · exact .inl (.inl z)
        · exact .inr z
        · exact .inl (.inr z)
      refine ⟨hs1, fun a => c.F a ∨ ∃ i, i ∈ w1.own ∧ oa i = a, ss, w1.sto, r, sto', by rw [← r1.length, evL_length e1], S1.sto, S1.tb, S1.hnd, hF, r1.keep kk (List.prefix_refl _), e2, ?_⟩
      cases r with
      | rt sv b =>
        intro v H2 hs2 x2 hk hn rr
        refine q v H2 hs2 (S1.called x2 hk hn) (x1.trans x2) sb1 ?_
        unfold ResE
        unfold RetR at rr
        split
        · rename_i hb
          rw [if_pos hb] at rr
          obtain ⟨p, e3, e4, e5, o⟩ := rr
          refine ⟨p, e3, ?_, e5, o.keep (.less fun a z => z.elim (fun z => .inl (less hs2 a z)) .inr) fun u e _ => e⟩
          cases eq : H p with
          | none => rfl
          | some u =>
            by_cases hm : p ∈ hs
            · exact absurd ((x1.trans x2).pre.subset hm) e5
            · obtain ⟨u', e'⟩ := x1.any hm eq
              rw [show H1 p = none from e4] at e'; cases e'
        · rename_i hb
          rw [if_neg hb] at rr
          exact rr.keep (.less (less hs2)) (List.prefix_refl _)
      | ex x => exact fun cls d H2 hs2 x2 hk hn rr => q cls d H2 hs2 (S1.called x2 hk hn) (x1.trans x2) sb1 (rr.less (less hs2))
    · cases e
  · cases e
theorem pEX_call {x : Str} {k : Nat} {F : FnX} {fs : List Ex} {e : Expr} {es : List Expr} {p pos : Pos} (C : CalleeX X.prog X.w X.K X.mg X.base x k fs.length F) (tk : Takes X E) (hr : Room k X.A) (hg : Gl X x) (ha : PA X (e :: es) (tL (gd X) fs)) (hdb : (x == ("__debug__" : Str)) = false)
    (he : starEach (e :: es) X.env = (false, eval e X.env) :: starEach es X.env) (hpl : (backTo pos (starEach es X.env)).any (·.1) = false) : PE X (.Call (.Name x p) (e :: es) [] pos) (tEX (gd X) E (xCallX F fs)) := by
  obtain ⟨f, fd, ps, hm, hk, hb, hl, F1⟩ := C.ex
  exact (pe_callS (E := WE E) F1 hr hg hm hk hb (fun σ => passAt tk σ) ha hdb he hpl).imp fun σ H Q h => tEX_call h
/-- a call for what it does -/
def sExpX (f : ExX) : SxX := fun sl w => match f sl w with
  | some (.rt _ _, w1) => some (.o .nx, sl, w1)
  | some (.ex e, w1) => some (.ex e, sl, w1)
  | none => none
theorem pX_exp {e : Expr} {f : ExX} {pos : Pos} (he : PE X e (tEX (gd X) E f)) (hs : swapsWith e none pos.line X.env = pure false) : PS X (.Expr e pos) (tX (gd X) E (sExpX f)) := (ps_expr he hs).imp fun D σ H h => by
  obtain ⟨c, hs, oa, sl, w, o, sl', w', S, e, q⟩ := h
  unfold sExpX at e
  split at e
  · rename_i sv b w1 e1
    cases e
    exact ⟨c, hs, oa, sl, w, _, w', S, e1, fun v H1 hs1 S1 x1 sb1 r1 => q σ H1 hs1 oa S1 (x1.keep sb1)⟩
  · rename_i x w1 e1
    cases e
    exact ⟨c, hs, oa, sl, w, _, w', S, e1, fun cls d H1 hs1 S1 x1 sb1 r1 => q cls d σ H1 hs1 oa S1 (x1.keep sb1) r1⟩
  · cases e
end PI
/-! PI29: try with several clauses, some of them with a name; nothing gets past them. -/
namespace PI
open PySem PySem.Spec L2 PyProof.Rows
/-- a clause: the class, the name's slot, what its suite does -/
abbrev Cl := Value × Option Nat × (Addr → Value → Option Addr → TS)
def wCl (K : PySem.W.Frag) (D : Ends) : List Cl → WX
  | [] => fun _ _ _ _ => False
  | (c, i, ts) :: r => fun cls d σ H => ∃ b, PySem.W.exmOne K cls c = some b ∧ (b = true → ∀ a, H a = none → match i with
      | none => ts a cls d D σ H
      | some i => ts a cls d { nx := fun σ2 H2 => D.nx (σ2.set i none) H2, rt := D.rt, bk := fun σ2 H2 => D.bk (σ2.set i none) H2, ct := fun σ2 H2 => D.ct (σ2.set i none) H2 } (σ.set i (some (.ref a))) H) ∧ (b = false → wCl K D r cls d σ H)
inductive ClsOk (X : Cx) : List ExceptHandler → List Cl → Prop
  | nil : ClsOk X [] []
  | plain {x : Str} {c : Value} {ts : Addr → Value → Option Addr → TS} {b0 : Stmt} {suite : List Stmt} {np hp : Pos} {hds : List ExceptHandler} {l : List Cl} (hc : L2.Names X x c)
      (su : ∀ (a : Addr) (oe : Obj) (cls : Value) (d : Option Addr) (pn : List (Addr × Obj)), Zc cls d oe → (∃ vs, oe.data = .fields vs) → PSs (X.suite a ((a, oe) :: pn)) (b0 :: suite) (ts a cls d)) (r : ClsOk X hds l) :
      ClsOk X (.ExceptHandler (some (.Name x np)) none (b0 :: suite) hp :: hds) ((c, none, ts) :: l)
  | named {x n : Str} {i : Nat} {c : Value} {ts : Addr → Value → Option Addr → TS} {b0 : Stmt} {suite : List Stmt} {np hp : Pos} {hds : List ExceptHandler} {l : List Cl} (hc : L2.Names X x c) (hi : X.N[i]? = some n) (hln : X.env.kindOf n = some .local)
      (su : ∀ (a : Addr) (oe : Obj) (cls : Value) (d : Option Addr) (pn : List (Addr × Obj)), Zc cls d oe → (∃ vs, oe.data = .fields vs) → PSs (X.suite a ((a, oe) :: pn)) (b0 :: suite) (ts a cls d)) (r : ClsOk X hds l) :
      ClsOk X (.ExceptHandler (some (.Name x np)) (some n) (b0 :: suite) hp :: hds) ((c, some i, ts) :: l)
variable {X : Cx} {body : List Stmt} {hd0 : ExceptHandler} {hds : List ExceptHandler} {l : List Cl} {pos : Pos} {tb : WX → TS}
theorem ps_try_cl (hs : X.stack = X.env :: X.outer) (hf : X.env.frame = some X.env.locals) (hN : X.N.Nodup)
    (hb : ∀ (W : WX) (pn : List (Addr × Obj)) (xe : Value → Shared → Prop), Takes (X.tr pn xe) W → PassesOwn (model X.prog X.w) X.A X.env xe → PSs (X.tr pn xe) body (tb W))
    (hh : ClsOk X (hd0 :: hds) l) : PS X (.Try body (hd0 :: hds) [] [] pos) (fun D σ H => tb (wCl X.K D l) D σ H) := by
  refine ⟨fun pins s σ H D I h => ?_⟩
  have ok := I.ok
  have fr : X.A.frames = some (X.env :: X.outer) := by rw [ok.frames, hs]
  refine wpAny_Try_except ?_
  have run1 := (hb (wCl X.K D l) (X.pn ++ pins) (fun e s1 => wpAny (model X.prog X.w) X.A (noteFrame e X.env) (fun _ s2 => wpAny (model X.prog X.w) X.A (setFlight e none) (fun _ s3 =>
    wpAny (model X.prog X.w) X.A (handleBy e X.env (hd0 :: hds)) (SP X pins D) X.xe s3) X.xe s2) X.xe s1) (fun u s1 xx => ?_) PassesOwn.looking).run [] s σ H D (I.toTry _) h
  · refine wpAny_mono run1 (fun f s1 q => ?_) (fun e s1 he => he)
    cases f with
    | next => obtain ⟨σ1, H1, J1, z⟩ := q; exact wpAny_execs_nil ⟨σ1, H1, J1.ofTry ok, z⟩
    | brk => obtain ⟨σ1, H1, J1, z⟩ := q; exact ⟨σ1, H1, J1.ofTry ok, z⟩
    | cont => obtain ⟨σ1, H1, J1, z⟩ := q; exact ⟨σ1, H1, J1.ofTry ok, z⟩
    | ret u => obtain ⟨v, σ1, H1, J1, r, z⟩ := q; exact ⟨v, σ1, H1, J1.ofTry ok, r, z⟩
  · obtain ⟨a, B, sI, pins2, σ1, H1, cls, d, rfl, J0, nb, up, sky, na, os, ag, w⟩ := xx
    have J : Inv X pins σ1 H1 sI := J0.ofTry ok
    have sky2 : Sky B (X.env :: X.outer) a (Zc cls d) X.env.locals s1.heap := by rw [← hs]; exact sky
    show wpAny (model X.prog X.w) X.A (noteFrame (.ref a) X.env) _ _ _
    refine Sky.land Zc.steady fr hf sky2 fun h3 fl3 up3 => ?_
    have J3 : Inv X pins σ1 H1 { s1 with heap := h3 } := J.landed nb fl3.1 (up.trans up3) os ag
    obtain ⟨o3, vs3, e3, z3, d3⟩ := fl3.there
    have nfr : a ∉ frs (X.env :: X.outer) := fun hm => by
      obtain ⟨_, o2, e2, hn⟩ := fl3.2.2.1.mem hm
      rw [e3] at e2; cases e2
      exact hn _ d3
    have nL : a ≠ X.env.locals := fun z => nfr (List.mem_filterMap.mpr ⟨X.env, List.mem_cons_self, by rw [hf, z]⟩)
    have nF : a ∉ X.fs := fun hm => by
      obtain ⟨e, he, q⟩ := List.mem_filterMap.mp hm
      exact nfr (List.mem_filterMap.mpr ⟨e, List.mem_cons_of_mem _ he, q⟩)
    have S3 := J3.suite e3 d3 na nL nF
    have LT : PySem.W.Looks (model X.prog X.w) h3 (typeOf (.ref a)) cls := fun A Q E s k q => wpAny_typeOf_ref (k _ _ e3) (by rw [z3.1]; exact q)
    have test : ∀ {x : Str} {c : Value} {np : Pos} {Q E : Value → Shared → Prop}, L2.Names X x c → Q c { s1 with heap := h3 } → wpAny (model X.prog X.w) (X.A.mark (some (.ref a))) (eval (.Name x np) X.env) Q E { s1 with heap := h3 } := fun {x c np Q E} hc q => by
      obtain ⟨hg, hdbg, hm | ⟨hm, hv, hnn⟩⟩ := hc
      · exact ld_glob (X := X.suite a ((a, o3) :: (X.pn ++ pins))) S3 hg hm q hdbg
      · exact ld_blt (X := X.suite a ((a, o3) :: (X.pn ++ pins))) S3 hg hm hv q hnn hdbg
    have go : ∀ {hs2 : List ExceptHandler} {l2 : List Cl}, ClsOk X hs2 l2 → wCl X.K D l2 cls d σ1 H1 → wpAny (model X.prog X.w) X.A (handleBy (.ref a) X.env hs2) (SP X pins D) X.xe { s1 with heap := h3 } := by
      intro hs2 l2 hk
      induction hk with
      | nil => exact fun w => w.elim
      | @plain x c ts b0 suite np hp hds2 l3 hc su r ih =>
        intro w
        obtain ⟨b, eb, yes, no⟩ := w
        refine wpAny_handleBy_cons (codeAny_handlers_test ?_) (by intro q; cases q)
        have LM := PySem.W.exm_one (M := model X.prog X.w) (J3.kIn) LT eb
        refine test hc (LM.here ?_)
        cases b with
        | true =>
          refine codeAny_handlers_suite ?_
          refine HandSPX.lands_againZ fl3 fun h4 fl4 up4 => ?_
          have J4 : Inv X pins σ1 H1 { s1 with heap := h4 } := J.landed nb fl4.1 ((up.trans up3).trans up4) os ag
          obtain ⟨o4, vs4, e4, z4, d4⟩ := fl4.there
          refine wpAny_mono ((su a o4 cls d (X.pn ++ pins) z4 ⟨_, d4⟩).run [] _ _ H1 _ (J4.suite e4 d4 na nL nF) (yes rfl a na)) (fun f s6 q => ?_) (fun _ _ z => False.elim z)
          cases f with
          | next => obtain ⟨σ6, H6, S6, z⟩ := q; exact ⟨_, _, S6.unsuite ok, z⟩
          | brk => obtain ⟨σ6, H6, S6, z⟩ := q; exact ⟨_, _, S6.unsuite ok, z⟩
          | cont => obtain ⟨σ6, H6, S6, z⟩ := q; exact ⟨_, _, S6.unsuite ok, z⟩
          | ret u => obtain ⟨v6, σ6, H6, S6, r6, z⟩ := q; exact ⟨_, _, _, S6.unsuite ok, r6, z⟩
        | false =>
          show wpAny _ X.A (handleBy (.ref a) X.env hds2) _ _ _
          exact ih (no rfl)
      | @named x n i c ts b0 suite np hp hds2 l3 hc hi hln su r ih =>
        intro w
        obtain ⟨b, eb, yes, no⟩ := w
        refine wpAny_handleBy_cons (codeAny_handlers_test ?_) (by intro q; cases q)
        have LM := PySem.W.exm_one (M := model X.prog X.w) (J3.kIn) LT eb
        refine test hc (LM.here ?_)
        cases b with
        | true =>
          refine codeAny_handlers_suite_as ?_
          refine HandSPX.lands_againZ fl3 fun h4 fl4 up4 => ?_
          have J4 : Inv X pins σ1 H1 { s1 with heap := h4 } := J.landed nb fl4.1 ((up.trans up3).trans up4) os ag
          obtain ⟨o4, vs4, e4, z4, d4⟩ := fl4.there
          refine store_ok (X := X.suite a ((a, o4) :: (X.pn ++ pins))) (v := .ref a) (J4.suite e4 d4 na nL nF) hN hi (.inl hln) rfl (fun s5 S5 => ?_) (.inr hln)
          refine wpAny_mono ((su a o4 cls d (X.pn ++ pins) z4 ⟨_, d4⟩).run [] s5 _ H1 _ S5 (yes rfl a na)) (fun f s6 q => ?_) (fun _ _ z => False.elim z)
          have fin : ∀ {σ6 : L2.St} {H6 : Hp} {Q : Shared → Prop}, Inv (X.suite a ((a, o4) :: (X.pn ++ pins))) [] σ6 H6 s6 → (∀ s7, Inv X pins (σ6.set i none) H6 s7 → Q s7) →
              wpAny (model X.prog X.w) X.A (do bindName X.env n .none; unbindBehindTheSuite X.env n hp) (fun _ s7 => Q s7) X.xe s6 := fun {σ6 H6 Q} S6 hq => gone_ok (S6.unsuite ok) hN hi hln hq
          cases f with
          | next => obtain ⟨σ6, H6, S6, z⟩ := q; exact fin S6 fun s7 J7 => ⟨_, _, J7, z⟩
          | brk => obtain ⟨σ6, H6, S6, z⟩ := q; exact fin S6 fun s7 J7 => ⟨_, _, J7, z⟩
          | cont => obtain ⟨σ6, H6, S6, z⟩ := q; exact fin S6 fun s7 J7 => ⟨_, _, J7, z⟩
          | ret u => obtain ⟨v6, σ6, H6, S6, r6, z⟩ := q; exact fin S6 fun s7 J7 => ⟨_, _, _, J7, r6, z⟩
        | false =>
          show wpAny _ X.A (handleBy (.ref a) X.env hds2) _ _ _
          exact ih (no rfl)
    exact go hh w
end PI
/-! PI30: repr of data. -/
namespace PI
open PySem PySem.Spec L2
def reprP : P → Option Str
  | .dict [] => some (PyData.shown (.dict []))
  | p => if (SeqAt.shaped p && p.showable && decide (p.shown.length ≤ sizeLine) && !p.hasDict) = true then some p.shown else none
variable {X : Cx} {pins : List (Addr × Obj)} {σ : L2.St} {H : Hp} {s : Shared} {O : Addr → Prop}
theorem repr_run {A : Around} {p : P} {v : V} {u : Value} {t : Str} {Q E : Value → Shared → Prop} (I : Inv X pins σ H s) (hG : A.guards = some []) (hu : A.units + 70 < cLine) (r : Rep (gd X) H O p v) (rv : RelV v u) (e : reprP p = some t)
    (k : ∀ s2 tk, Inv X pins σ H s2 → Q (.str t tk) s2) : wpAny (model X.prog X.w) A (call (.builtin "repr") [u]) Q E s := by
  unfold reprP at e
  split at e
  · cases e
    rw [Rep] at r
    obtain ⟨a, ks, vs, u0, rfl, n, hr, hd, rk, rvs⟩ := r
    obtain rfl : u = Value.ref a := rv
    rw [RepKs] at rk; subst rk
    rw [RepVs] at rvs; subst rvs
    obtain ⟨o, n2, es, rd, ns⟩ : ∃ (o : Obj) (n2 : Nat) (es : Array DictEntry), (s.heap.get? a = some o ∧ o.cls = .type "dict" ∧ o.data = .dict es n2 ∧ es.toList = []) ∧ a ≠ sysModules := by
      rcases dicO_kinds (O := O) (p := .int 0) hr hd (by rw [RepKs]) rfl with ⟨k, ls, _, dk, e2, e3⟩ | ⟨nks, xs, e1, _⟩
      · have el : ls = [] := by
          cases ls with
          | nil => rfl
          | cons q r => cases e2
        subst el
        obtain ⟨ws, kv, D, hne⟩ := dk_at I dk
        cases kv
        obtain ⟨o, es, ep, ho, hx, hd2, _, he, _⟩ := D
        have he2 : es.toList = [] := by
          cases q : es.toList with
          | nil => rfl
          | cons z zs => rw [q] at he; cases he
        exact ⟨o, ep, es, ⟨ho, hx.1, hd2, he2⟩, fun z => by rw [z] at hne; simp at hne⟩
      · cases e1
    obtain ⟨ho, hc, hd2, he⟩ := rd
    have R : Reads s.heap (.ref a) (.dict []) ([a] ++ []) := .dict ho hc hd2 (by rw [he]; exact .nil) (by rw [he]; exact .nil)
    have d2 : PyData.depth (.dict []) ≤ 2 := by decide
    have hu2 : A.units + (PyData.depth (.dict []) + 1) < cLine := by omega
    refine repr_of_reads' R (by decide) (fun _ z => ?_) hG hu2 (fun _ _ q => q) (fun h2 tk2 t2 kp => k _ _ (I.kept kp)) (by decide +kernel)
    simp at z
    exact ns z.symm
  · split at e
    · rename_i hne hc
      cases e
      simp only [Bool.and_eq_true, decide_eq_true_eq, Bool.not_eq_true'] at hc
      obtain ⟨⟨⟨c1, c2⟩, c3⟩, c4⟩ := hc
      have D := Rep.dp p v (SeqAt.canLay_of_shaped c1) r
      obtain ⟨as, R⟩ := Dp.reads I p v u D rv
      have d64 := SeqAt.depth_of_shaped c1
      have go : ∀ a, u = .ref a → wpAny (model X.prog X.w) A (call (.builtin "repr") [u]) Q E s := fun a eu => by
        subst eu
        exact repr_of_reads' R c2 (fun z => by rw [c4] at z; cases z) hG (by omega) (fun _ _ q => q) (fun h2 tk2 t2 kp => k _ _ (I.kept kp)) c3
      cases R with
      | none => exact P.repr_of_none (k _ _ (I.tok _))
      | bool b => exact P.repr_of_bool (k _ _ (I.tok _))
      | int i t => exact P.repr_of_int (of_decide_eq_true c2) (k _ _ (I.tok _))
      | str x t => exact P.repr_of_str (k _ _ (I.tok _)) c3
      | list => exact go _ rfl
      | tuple => exact go _ rfl
      | dict => cases c4
    · cases e

def rRepr (G : Gd) : List V → Hp → VK → Prop := fun xs H Q => ∃ (O : Addr → Prop) (p : P) (x : V) (t : Str), xs = [x] ∧ Rep G H O p x ∧ reprP p = some t ∧ Q (.str t) H
theorem call_repr (hG : X.A.guards = some []) (hu : X.A.units + 70 < cLine) : CallR X (.builtin "repr") (rRepr (gd X)) := by
  intro pins s σ H xs us Q I r h
  obtain ⟨O, p, x, t, rfl, rp, e, q⟩ := h
  cases r with
  | cons r1 r2 =>
    cases r2
    exact repr_run I hG hu rp r1 e fun s2 tk J => ⟨.str t, H, J, ⟨_, rfl⟩, q⟩
def xRepr (f : Ex) : Ex := fun sl w => match f sl w with
  | some ((.d p, _), w1) => (match reprP p with
    | some t => some ((.d (.str t), false), w1)
    | none => none)
  | _ => none
theorem pE_repr {e : Expr} {f : Ex} {p pos : Pos} (hG : X.A.guards = some []) (hu : X.A.units + 70 < cLine) (hg : Gl X "repr") (hm : X.mg "repr" = none) (he : PE X e (tE (gd X) f)) (hs : starEach [e] X.env = (false, eval e X.env) :: starEach [] X.env) :
    PE X (.Call (.Name "repr" p) [e] [] pos) (tE (gd X) (xRepr f)) := (pe_callB (call_repr hG hu) hg hm (by rfl) (pL_cons he pL_nil hs) (by decide) (by decide) hs (by rfl)).imp fun σ H Q h => by
  obtain ⟨c, hs, oa, sl, w, sv, b, w', S, e, q⟩ := h
  unfold xRepr at e
  split at e
  · rename_i p b1 w1 e1
    split at e
    · rename_i t e2
      cases e
      refine ⟨c, hs, oa, sl, w, [.d p], w', S, by unfold evL evL; rw [e1], fun vs H1 hs1 S1 x1 sb1 r1 => ?_⟩
      obtain ⟨v, r, rfl, r2, r3⟩ := r1
      cases r3
      exact ⟨_, p, v, t, rfl, r2, e2, q _ _ hs1 S1 x1 sb1 resE_str⟩
    · cases e
  · cases e
end PI
/-! PI31: a lambda handed to a def. -/
namespace PI
open PySem PySem.Spec L2 PyProof.Rows LamX
/-- all but tables stays, tables stay tables -/
structure ExtT (H H' : Hp) : Prop where
  rest : ∀ b o, H b = some o → NT o → H' b = some o
  tbl : ∀ b ps, H b = some (.tbl ps) → ∃ qs, H' b = some (.tbl qs)
variable {X : Cx} {pins : List (Addr × Obj)} {σ : L2.St} {H : Hp} {s : Shared}
theorem lam_make3 {T : List (Addr × Str)} {cc P : Addr} {params : Arguments} {body : Expr} {scope : Scope} {pos : Pos} {E Q : Value → Shared → Prop} (I : Inv X pins σ H s) (B : TabB X.base X.mg cc P) (hcode : X.env.code = .ref cc)
    (hm : (P, X.env.qual ++ "<lambda>") ∈ T) (hu : ∀ p ∈ T, p.1 = P → p.2 = X.env.qual ++ "<lambda>") (hT : Tabs T H) (hdef : defaultsOf params X.env = ([], [])) (hfree : ∀ y ∈ scope.names, y.2 = .free → ∃ c, X.env.cells.lookup y.1 = some c)
    (k : ∀ (f c : Addr) (pm ctv : Value) (H1 : Hp) (s1 : Shared), Inv X pins σ H1 s1 → ExtT H H1 → Tabs T H1 →
      s1.heap.get? f = some (PySem.W.kla_obj "<lambda>" (X.env.qual ++ "<lambda>") params body scope (cloFrom X.env.cells scope.names []) pm c ctv) → H1 f = none → f ∉ frs X.stack → H1 c = some (CodeO c (X.env.qual ++ "<lambda>")) → Q (.ref f) s1) :
    wpAny (model X.prog X.w) X.A (eval (.Lambda params body scope pos) X.env) Q E s := by
  obtain ⟨ps, eP, tri, good⟩ := hT _ hm
  refine PySem.W.kla_eval hdef ?_
  have bP : s.heap.BuiltinsAt X.mg P := B.bm.keeps I.bk
  have oP : s.heap.get? P = some { cls := .none, data := .fields ps } := I.hok P _ eP
  have off : ∀ f, s.heap.objs.size ≤ f → f ∉ frs X.stack := fun f hf z => by
    rcases List.mem_cons.mp (I.stkSub _ z) with e | e
    · have lt := I.lt
      rw [← e] at lt
      exact absurd (Nat.lt_of_lt_of_le lt hf) (Nat.lt_irrefl _)
    · exact I.nofs hf e
  cases hc : codeAmong pos ps.toList with
  | some cv =>
    obtain ⟨c, e, hco⟩ := good pos cv hc
    subst e
    refine PySem.W.kla_makeFunctionHit (mg := X.mg) (c := cc) (P := P) (ps := ps) (closure_ok hfree) I.ok.glob (I.mod.glob.keeps I.bk) hcode (B.code.keeps I.bk) oP tri hc bP fun ctv h2 tk kp sz => ?_
    exact k h2.objs.size c _ ctv H _ (I.kept fun b o e => Heap.get?_push_of_some _ (kp b o e)) ⟨fun _ _ e _ => e, fun _ ps e => ⟨ps, e⟩⟩ hT (Heap.get?_push_size _ rfl) (I.hok.fresh sz) (off _ sz) hco
  | none =>
    refine PySem.W.kla_makeFunction (mg := X.mg) (c := cc) (P := P) (ps := ps) (closure_ok hfree) I.ok.glob (I.mod.glob.keeps I.bk) hcode (B.code.keeps I.bk) oP tri hc B.gP bP fun c ctv h2 tk kp ge lt rec_ tab_ => ?_
    obtain ⟨c2, oc, vs, t, e2, hoc, hd, hv⟩ := rec_
    cases e2
    have sz : s.heap.objs.size ≤ h2.objs.size := Nat.le_trans ge (Nat.le_of_lt lt)
    have nC : H c = none := I.hok.fresh ge
    have I1 := inv_table (t' := tk) (more := #[rawInt pos.line, rawInt pos.col, .ref c]) (h' := h2.push (PySem.W.kla_obj "<lambda>" (X.env.qual ++ "<lambda>") params body scope (cloFrom X.env.cells scope.names []) ((X.mg "__name__").getD .none) c ctv)) I eP
      (fun b o hb e => Heap.get?_push_of_some _ (kp b o hb e)) (Heap.get?_push_of_some _ tab_) ge ⟨oc, vs, t, Heap.get?_push_of_some _ hoc, hd, hv⟩
    have nPc : P ≠ c := ne_of_none eP nC
    have X1 : ExtT H (upd (upd H P (.tbl (ps ++ #[rawInt pos.line, rawInt pos.col, .ref c]))) c (CodeO c (X.env.qual ++ "<lambda>"))) := by
      refine ⟨fun b o e n => ?_, fun b qs e => ?_⟩
      · rw [upd_ne (ne_of_none e nC), upd_ne (fun z => n ps (Option.some.inj (e.symm.trans (by rw [z]; exact eP))))]
        exact e
      · rw [upd_ne (ne_of_none e nC)]
        by_cases hb : b = P
        · rw [hb, upd_same]; exact ⟨_, rfl⟩
        · rw [upd_ne hb]; exact ⟨_, e⟩
    have eL : (ps ++ #[rawInt pos.line, rawInt pos.col, .ref c]).toList = ps.toList ++ [rawInt pos.line, rawInt pos.col, .ref c] := by simp
    have T1 : Tabs T (upd (upd H P (.tbl (ps ++ #[rawInt pos.line, rawInt pos.col, .ref c]))) c (CodeO c (X.env.qual ++ "<lambda>"))) := fun p hp => by
      by_cases hb : p.1 = P
      · rw [hu p hp hb, hb]
        refine ⟨_, by rw [upd_ne nPc, upd_same], by rw [eL]; exact PySem.TriplesOk_snoc _ _ _ _ tri, fun p2 cv hcv => ?_⟩
        rw [eL] at hcv
        rcases among_app _ tri hcv with z | z
        · obtain ⟨c0, e1, e2⟩ := good p2 cv z
          exact ⟨c0, e1, X1.rest _ _ e2 codeO_ne⟩
        · exact ⟨c, z, upd_same⟩
      · obtain ⟨qs, a1, a2, a3⟩ := hT p hp
        refine ⟨qs, by rw [upd_ne (ne_of_none a1 nC), upd_ne hb]; exact a1, a2, fun p2 cv hcv => ?_⟩
        obtain ⟨c0, e1, e2⟩ := a3 p2 cv hcv
        exact ⟨c0, e1, X1.rest _ _ e2 codeO_ne⟩
    refine k h2.objs.size c ((X.mg "__name__").getD .none) ctv _ _ I1 X1 T1 (Heap.get?_push_size _ rfl) ?_ (off _ sz) upd_same
    rw [upd_ne (Nat.ne_of_gt lt), upd_ne (Nat.ne_of_gt (Nat.lt_of_lt_of_le (Heap.lt_size oP) sz))]
    exact I.hok.fresh sz
def tLm (T : List (Addr × Str)) (TT : (XK → Hp → VK → Prop) → Hp → VK → Prop) (t : XK → TE) : TE := fun σ H Q => Tabs T H ∧ ∀ H1, ExtT H H1 → Tabs T H1 → TT (fun E H2 Q2 => t E σ H2 Q2) H1 Q
/-- x(lambda: body) -/
theorem pe_lam3 {T : List (Addr × Str)} {TT : (XK → Hp → VK → Prop) → Hp → VK → Prop} {x a : Str} {g cc P : Addr} {k : Nat} {pg : Arguments} {bg : List Stmt} {sg : Scope} {dV kV doc pm cdv ct oc : Value} {an od : Option Addr} {osl : Array (Option Value)} {Ng : List Str}
    {params : Arguments} {body : Expr} {scope : Scope} {t : XK → TE} {p lpos pos : Pos} (hg : Gl X x) (hm : X.mg x = some (.ref g)) (hk : PySem.W.keepIn X.K (.ref g) = true)
    (lk : X.K.lookup g = some ⟨oc, od, .func (PySem.W.fnOf x x pg bg sg dV kV doc pm an cdv ct), osl⟩) (hcg : PySem.W.codeIn X.K cdv x = true) (hb : L2.Binds X.K (PySem.W.fnOf x x pg bg sg dV kV doc pm an cdv ct) [a] []) (Sg : FnScope Ng [a] sg) (hNg : Ng[0]? = some a) (hva : Vis sg a)
    (hG : GivesTo X Ng x sg g cdv bg a (X.env.qual ++ "<lambda>") TT) (B : TabB X.base X.mg cc P) (hcode : X.env.code = .ref cc) (hmT : (P, X.env.qual ++ "<lambda>") ∈ T) (hu : ∀ p ∈ T, p.1 = P → p.2 = X.env.qual ++ "<lambda>") (hr : Room (k + 2) X.A) (L : LamS X.env.scope scope)
    (hdef : defaultsOf params X.env = ([], [])) (hbind : ∀ (q : Str) (cl : List (Str × Addr)) (pm cv ctv : Value), bindArgs (PySem.W.kla_fn "<lambda>" q params body scope cl pm cv ctv) ⟨[], []⟩ = pure [])
    (hbody : ∀ (A : Around) (outer : List Env) (s : Shared) (H : Hp) (E : XK) (f c : Addr), Room k (A.deeper (lamEnv X scope s.heap.objs.size f c)) → PE (lamCx X A outer s H E scope f c) body (t E))
    (hdb : (x == ("__debug__" : Str)) = false) (hd : (a == ("__debug__" : Str)) = false) (hcd : (a == ("__classdict__" : Str)) = false) :
    PE X (.Call (.Name x p) [.Lambda params body scope lpos] [] pos) (tLm T TT t) := by
  refine ⟨fun pins s σ H Q I h => ?_⟩
  obtain ⟨hT, h⟩ := h
  refine wpAny_Call_Name_kw (ld_glob I hg hm ?_ hdb)
  refine PySem.W.callWith_K (h₀ := X.base) I.ok.mod.kin hk ?_ (by rfl) (by rfl)
  show wpAny _ _ (spliced ((false, eval (.Lambda params body scope lpos) X.env) :: backTo pos (starEach [] X.env))) _ _ s
  refine Calls.spliced_cons (lam_make3 I B hcode hmT hu hT hdef (L.has I.ok) fun f c pm2 ctv H1 s1 I1 e1 T1 hf hfn hfr hco => ?_)
  refine Calls.spliced_nil ⟨I1.kIn, ?_⟩
  have rc : codeAny (model X.prog X.w) X.A (.call (.ref g) ⟨[.ref f], []⟩) (CR C8.CX0 X.stack X.prog X.w H1 s1 Q C8.E0) s1 :=
    run_ofS (N := Ng) (ps := [a]) (us := [.ref f]) (vs := [.ref f]) lk hcg Sg hr I1.env0 (hb s1 [.ref f] I1.kIn rfl) (.cons rfl .nil) rfl fun hr2 => by
      obtain ⟨t2, p2, q2⟩ := hG f c s1 H1 Q (fun E H2 Q2 => t E σ H2 Q2) (fun W pn xe E p1 p2 tk hW => pe_act (i := 0) I1 L hf hfn hfr (hbind _ _ _ _ _) tk hW hr2 (fun A outer s H hr3 => hbody A outer s H E f c hr3) hNg hva hd hcd) hco (h H1 e1 T1)
      exact ⟨t2, p2.nox, q2⟩
  refine wpAny_call (codeAny_mono rc fun r s2 q => ?_)
  cases r with
  | error e => exact (show False from q).elim
  | ok fl =>
    cases fl with
    | ret u => exact I1.after q
    | next => exact False.elim q
    | brk => exact False.elim q
    | cont => exact False.elim q
end PI
/-! PI32: try: return ('told', call()) / except .. -/
namespace PI
open PySem PySem.Spec L2 PyProof.Rows LamX
theorem takes_len {X : Cx} {W : WX} (tk : Takes X W) : Takes X (fun cls d σ H => σ.length = X.N.length → W cls d σ H) := fun u s2 ⟨a, B, sI, pins, σ, H, cls, d, e, I, nb, up, sky, na, os, ag, w⟩ =>
  tk u s2 ⟨a, B, sI, pins, σ, H, cls, d, e, I, nb, up, sky, na, os, ag, w I.len⟩
/-- what is made of the lambda's reading: L the clauses, m the slots -/
def TTm (K : PySem.W.Frag) (m : Nat) (L : List Cl) : (XK → Hp → VK → Prop) → Hp → VK → Prop := fun tl H Q =>
  tl (fun cls d H1 => ∀ σ : L2.St, σ.length = m → wCl K { nx := fun _ H2 => Q .non H2, rt := Q } L cls d σ H1) H (fun v H1 => ([V.str "told", v] : List V).length ≤ sizeLine ∧ ∀ p, H1 p = none → Q (.ref p) (upd H1 p (.tup [.str "told", v])))
theorem met_gives {X : Cx} {Ng : List Str} {x a q : Str} {sg : Scope} {g : Addr} {cdg : Value} {L : List Cl} {hd0 : ExceptHandler} {hds : List ExceptHandler} {j k : Nat} {p1 p2 p3 p4 p5 p6 : Pos} (hN : Ng.Nodup) (h0 : ∀ f : Addr, (L2.start Ng [V.ref f])[0]? = some (some (V.ref f))) 
    (hcl : ∀ (s : Shared) (H : Hp), ClsOk (cxOf C8.CX0 X.prog X.w X.K X.mg X.base Ng x sg g cdg X.A X.stack s H C8.E0).nox (hd0 :: hds) L) :
    GivesTo X Ng x sg g cdg [.Try [.Return (some (.Tuple [.Constant (.str "told") j p1, .Call (.Name a p2) [] [] p3] k p4)) p5] (hd0 :: hds) [] [] p6] a q (TTm X.K Ng.length L) := by
  intro f c s H Q tl act hc h
  refine ⟨_, pss_one (ps_try_cl (X := (cxOf C8.CX0 X.prog X.w X.K X.mg X.base Ng x sg g cdg X.A X.stack s H C8.E0).nox)
      (tb := fun W D σ H => ∃ Ech : XK, (∀ cls d σ1 H1, Ech cls d H1 → σ1.length = Ng.length → W cls d σ1 H1) ∧ σ[0]? = some (some (.ref f)) ∧ H c = some (CodeO c q) ∧ tl Ech H (fun v H1 => ([V.str "told", v] : List V).length ≤ sizeLine ∧ ∀ p, H1 p = none → D.rt (.ref p) (upd H1 p (.tup [.str "told", v]))))
      rfl rfl hN (fun W pn xe tk _ => ?_) (hcl s H)), ?_⟩
  · refine ⟨fun pins s1 σ H1 D I h1 => ?_⟩
    obtain ⟨Ech, hW, e0, e1, e2⟩ := h1
    have hp := act (fun cls d σ H => σ.length = Ng.length → W cls d σ H) pn xe Ech p2 p3 (takes_len tk) hW
    have t1 := pss_one (ps_ret (pos := p5) (pe_tup (x1 := k) (pos := p4) (pa_cons (pe_str (x := "told") (j := j) (pos := p1)) (pa_cons hp pa_nil))))
    exact t1.run pins s1 σ H1 D I ⟨e0, e1, e2⟩
  · exact ⟨fun cls d H1 => ∀ σ : L2.St, σ.length = Ng.length → wCl X.K { nx := fun _ H2 => Q .non H2, rt := Q } L cls d σ H1, fun cls d σ1 H1 hh hl => hh σ1 hl, h0 f, hc, h⟩
end PI
/-! PI33: what a lambda handed to such a def comes to. -/
namespace PI
open PySem PySem.Spec L2 PyProof.Rows LamX
section
variable {G : Gd} {c : Cn} {hs hs' : List Addr} {oa : Nat → Addr} {sl : Slots} {w w' : W} {σ : L2.St} {H H1 : Hp}
theorem keep_extT {O : Addr → Prop} (x : ExtT H H1) (t : Tb H1) : Keep O H O H1 :=
  ⟨fun a u _ e n => x.rest a u e n, fun a xs e => x.rest a _ e (fun _ z => nomatch z), fun a o xs e => x.rest a _ e (fun _ z => nomatch z), fun _ _ n _ => n, x.tbl, fun _ => t⟩
theorem ext_extT (x : ExtT H H1) (t : Tb H1) : Ext hs H hs H1 :=
  ⟨fun a u _ e n => x.rest a u e n, List.prefix_refl _, fun _ h => .inl h, fun a xs e => x.rest a _ e (fun _ z => nomatch z), fun a o xs e => x.rest a _ e (fun _ z => nomatch z), x.tbl, fun _ => t⟩
theorem SRel.extT (S : SRel G c hs oa sl w σ H) (x : ExtT H H1) (t : Tb H1) : SRel G c hs oa sl w σ H1 := by
  refine ⟨S.len, fun i sv e n => ?_, fun i hi => ?_, S.inj, S.new, S.nd, ⟨S.sto.1, fun n ns e => ?_⟩, S.hnd, S.hown, S.fd, fun a u n e q => x.rest a u (S.ext a u n e q) q, S.h0, S.hpre, fun a ps e => ?_, t⟩
  · obtain ⟨v, e1, r⟩ := S.slot i sv e n
    exact ⟨v, e1, r.keep (keep_extT x t) (List.prefix_refl _)⟩
  · obtain ⟨sv, e1, e2, o⟩ := S.owns i hi
    exact ⟨sv, e1, e2, o.keep (keep_extT x t) fun u e n => x.rest _ u e n⟩
  · obtain ⟨a, e1, e2⟩ := S.sto.2 n ns e
    exact ⟨a, e1, x.rest _ _ e2 (fun _ z => nomatch z)⟩
  · obtain ⟨qs, q⟩ := S.tbl a ps e
    exact x.tbl a qs q
end
def xMet (metP : Exn → Option P) (f : ExX) : Ex := fun sl w => match f sl w with
  | some (.rt (.d p) _, w1) => some ((.d (.tuple [.str "told", p]), false), w1)
  | some (.ex e, w1) => (match metP e with
    | some p => some ((.d p, false), w1)
    | none => none)
  | _ => none
/-- the clauses do what metP tells -/
def ClsDo (G : Gd) (m : Nat) (L : List Cl) (metP : Exn → Option P) : Prop := ∀ (e : Exn) (p : P), metP e = some p → ∀ (cls : Value) (d : Option Addr) (σ : L2.St) (H : Hp) (O : Addr → Prop) (Q : VK), σ.length = m → ExRep G H O e cls d →
  (∀ v H2, Same H H2 → Rep G H2 O p v → Q v H2) → wCl G.K { nx := fun _ H2 => Q .non H2, rt := Q } L cls d σ H
theorem tE_met {G : Gd} {m : Nat} {L : List Cl} {metP : Exn → Option P} {f : ExX} (hL : ClsDo G m L metP) {σ : L2.St} {H : Hp} {Q : VK} (h : tE G (xMet metP f) σ H Q) : tLm tabT (TTm G.K m L) (fun E => tEX G (fun cls d _ H => E cls d H) f) σ H Q := by
  obtain ⟨c, hs, oa, sl, w, sv, b, w', S, e, q⟩ := h
  refine ⟨S.tb, fun H1 x1 T1 => ?_⟩
  have S1 := S.extT x1 T1
  have X1 : Ext hs H hs H1 := ext_extT x1 T1
  unfold xMet at e
  split at e
  · rename_i p b1 w1 e1
    cases e
    refine ⟨c, hs, oa, sl, w, _, w', S1, e1, fun v H2 hs2 S2 x2 sb2 r2 => ⟨by show 2 ≤ sizeLine; rw [sizeLine_eq]; omega, fun a na => ?_⟩⟩
    have sm := same_new (o := .tup [V.str "told", v]) na
    refine q (.ref a) _ hs2 (S2.grow sm) ((X1.trans x2).trans (.grow sm)) sb2 (resE_rep ?_)
    show Rep _ _ _ _ _
    rw [Rep]
    refine ⟨a, _, rfl, .inl upd_same, reps_cons (by rw [Rep]) (reps_cons ?_ reps_nil)⟩
    have rp : Rep G H2 (Off c hs2 w'.own oa) p v := r2.rep S1 x2 sb2
    exact rp.keep (.grow sm) _ _
  · rename_i ex w1 e1
    split at e
    · rename_i p e2
      cases e
      refine ⟨c, hs, oa, sl, w, _, w', S1, e1, fun cls d H2 hs2 S2 x2 sb2 rr σ1 hl => ?_⟩
      exact hL ex p e2 cls d σ1 H2 _ Q hl rr fun v H3 sm rv => q v H3 hs2 (S2.grow sm) ((X1.trans x2).trans (.grow sm)) sb2 (resE_rep rv)
    · cases e
  · cases e
end PI
/-! PI34: the suites of such clauses. -/
namespace PI
open PySem PySem.Spec L2 PyProof.Rows
variable {X : Cx}
/-- return 'word' -/
def tsW (x : Str) : Addr → Value → Option Addr → TS := fun _ _ _ D σ H => D.rt (.str x) H
theorem su_word {a : Addr} {pn : List (Addr × Obj)} {x : Str} {j : Nat} {p pos : Pos} {cls : Value} {d : Option Addr} : PSs (X.suite a pn) [.Return (some (.Constant (.str x) j p)) pos] (tsW x a cls d) := pss_one (ps_ret pe_str)
/-- return ('word', repr(error.f)) -/
def tsF (G : Gd) (C : Addr) (f : Str) (i : Nat) (x : Str) : Addr → Value → Option Addr → TS := fun a cls d => tRet (tTup (tCons (tC (.str x)) (tCons (tCB (rRepr G) (tCons (tXf a cls d C f (tVar i)) tNil)) tNil)))
theorem su_field {a C : Addr} {oe : Obj} {cls : Value} {d : Option Addr} {pn : List (Addr × Obj)} {f x n : Str} {i j k : Nat} {p1 p2 p3 p4 p5 p6 pos : Pos} (T : XfC X.K C) (no : PySem.W.findIn X.K (.ref C) f = some none) (hz : Zc cls d oe) (hf : ∃ vs, oe.data = .fields vs)
    (hG : X.A.guards = some []) (hu : X.A.units + 70 < cLine) (hg : Gl X "repr") (hm : X.mg "repr" = none) (hN : X.N[i]? = some n) (hv : Vis X.env.scope n) (hd : (n == ("__debug__" : Str)) = false) (hcd : (n == ("__classdict__" : Str)) = false)
    (hb : attributeBase (.Name n p3) f X.env (eval (.Name n p3) X.env) = eval (.Name n p3) X.env) (hs : starEach [.Attribute (.Name n p3) f p4] X.env = (false, eval (.Attribute (.Name n p3) f p4) X.env) :: starEach [] X.env)
    (hs2 : starEach [.Constant (.str x) j p1, .Call (.Name "repr" p2) [.Attribute (.Name n p3) f p4] [] p5] X.env = (false, eval (.Constant (.str x) j p1) X.env) :: starEach [.Call (.Name "repr" p2) [.Attribute (.Name n p3) f p4] [] p5] X.env)
    (hs3 : starEach [.Call (.Name "repr" p2) [.Attribute (.Name n p3) f p4] [] p5] X.env = (false, eval (.Call (.Name "repr" p2) [.Attribute (.Name n p3) f p4] [] p5) X.env) :: starEach [] X.env) :
    PSs (X.suite a ((a, oe) :: pn)) [.Return (some (.Tuple [.Constant (.str x) j p1, .Call (.Name "repr" p2) [.Attribute (.Name n p3) f p4] [] p5] k p6)) pos] (tsF (gd X) C f i x a cls d) := by
  have e1 : PE (X.suite a ((a, oe) :: pn)) (.Attribute (.Name n p3) f p4) (tXf a cls d C f (tVar i)) := pe_xf T no hz hf (pe_var hN hv hd hcd) hb
  have e2 : PE (X.suite a ((a, oe) :: pn)) (.Call (.Name "repr" p2) [.Attribute (.Name n p3) f p4] [] p5) (tCB (rRepr (gd X)) (tCons (tXf a cls d C f (tVar i)) tNil)) :=
    pe_callB (X := X.suite a ((a, oe) :: pn)) (call_repr (X := X.suite a ((a, oe) :: pn)) hG hu) hg hm (by rfl) (pa_cons e1 pa_nil hs) (by decide) (by decide) hs (by rfl)
  exact pss_one (ps_ret (pe_tup (pa_cons pe_str (pa_cons e2 pa_nil hs3) hs2)))
end PI
/-! PI35: the clauses, one by one; the call with a lambda. -/
namespace PI
open PySem PySem.Spec L2 PyProof.Rows LamX
section
variable {G : Gd} {D : Ends} {L : List Cl} {c : Value} {i : Option Nat} {ts : Addr → Value → Option Addr → TS} {cls : Value} {d : Option Addr} {σ : L2.St} {H : Hp} {O : Addr → Prop} {Q : VK}
theorem cl_skip (e : PySem.W.exmOne G.K cls c = some false) (h : wCl G.K D L cls d σ H) : wCl G.K D ((c, i, ts) :: L) cls d σ H := ⟨false, e, fun z => (nomatch z), fun _ => h⟩
theorem cl_word {x : Str} (e : PySem.W.exmOne G.K cls c = some true) (h : D.rt (.str x) H) : wCl G.K D ((c, none, tsW x) :: L) cls d σ H := ⟨true, e, fun _ _ _ => h, fun z => (nomatch z)⟩
theorem cl_field {C : Addr} {f x t : Str} {n m : Nat} {p : P} {y : Str} (e : PySem.W.exmOne G.K cls c = some true) (hl : σ.length = m) (hn : n < m) (gC : G.mg y = some (.ref C)) (r : ExRep G H O ⟨y, some (f, p)⟩ cls d) (er : reprP p = some t)
    (h : ∀ v H2, Same H H2 → Rep G H2 O (.tuple [.str x, .str t]) v → Q v H2) : wCl G.K { nx := fun _ H2 => Q .non H2, rt := Q } ((c, some n, tsF G C f n x) :: L) cls d σ H := by
  refine ⟨true, e, fun _ a na => ?_, fun z => (nomatch z)⟩
  obtain ⟨⟨C2, g2, ec⟩, rf⟩ := r
  obtain ⟨dd, fs, v, e1, e2, e3, rv⟩ := rf f p rfl
  rw [gC] at g2; cases g2
  refine ⟨.ref a, by rw [List.getElem?_set_self (by omega)], rfl, ec, dd, fs, v, e1, e2, e3, O, p, v, t, rfl, rv, er, by show 2 ≤ sizeLine; rw [sizeLine_eq]; omega, fun q nq => ?_⟩
  have sm := same_new (o := .tup [V.str x, V.str t]) nq
  refine h _ _ sm ?_
  rw [Rep]
  exact ⟨q, _, rfl, .inl upd_same, reps_cons (by rw [Rep]) (reps_cons (by rw [Rep]) reps_nil)⟩
end
/-- _law_met(lambda: body): the clauses L do what metP tells -/
theorem pE_met {X : Cx} {x a : Str} {g cc Pt : Addr} {k : Nat} {pg : Arguments} {sg : Scope} {dV kV doc pm cdv ct oc : Value} {an od : Option Addr} {osl : Array (Option Value)} {Ng : List Str} {params : Arguments} {body : Expr} {scope : Scope} {p lpos pos : Pos} {L : List Cl} {metP : Exn → Option P} {fb : ExX}
    {hd0 : ExceptHandler} {hds : List ExceptHandler} {j kt : Nat} {p1 p2 p3 p4 p5 p6 : Pos} (hg : Gl X x) (hm : X.mg x = some (.ref g)) (hk : PySem.W.keepIn X.K (.ref g) = true)
    (lk : X.K.lookup g = some ⟨oc, od, .func (PySem.W.fnOf x x pg [.Try [.Return (some (.Tuple [.Constant (.str "told") j p1, .Call (.Name a p2) [] [] p3] kt p4)) p5] (hd0 :: hds) [] [] p6] sg dV kV doc pm an cdv ct), osl⟩) (hcg : PySem.W.codeIn X.K cdv x = true)
    (hb : L2.Binds X.K (PySem.W.fnOf x x pg [.Try [.Return (some (.Tuple [.Constant (.str "told") j p1, .Call (.Name a p2) [] [] p3] kt p4)) p5] (hd0 :: hds) [] [] p6] sg dV kV doc pm an cdv ct) [a] []) (Sg : FnScope Ng [a] sg) (hNg : Ng[0]? = some a) (hva : Vis sg a) (h0 : ∀ f : Addr, (L2.start Ng [V.ref f])[0]? = some (some (V.ref f)))
    (hcl : ∀ (s : Shared) (H : Hp), ClsOk (cxOf C8.CX0 X.prog X.w X.K X.mg X.base Ng x sg g cdv X.A X.stack s H C8.E0).nox (hd0 :: hds) L) (hdo : ClsDo (gd X) Ng.length L metP)
    (B : TabB X.base X.mg cc Pt) (hcode : X.env.code = .ref cc) (hmT : (Pt, X.env.qual ++ "<lambda>") ∈ tabT) (hu : ∀ p ∈ tabT, p.1 = Pt → p.2 = X.env.qual ++ "<lambda>") (hr : Room (k + 2) X.A) (Ls : LamS X.env.scope scope)
    (hdef : defaultsOf params X.env = ([], [])) (hbind : ∀ (q : Str) (cl : List (Str × Addr)) (pm cv ctv : Value), bindArgs (PySem.W.kla_fn "<lambda>" q params body scope cl pm cv ctv) ⟨[], []⟩ = pure [])
    (hbody : ∀ (Y : Cx) (E : XK), gd Y = gd X → Y.base = X.base → Y.N = X.N → Y.env.scope = scope → Room k Y.A → Takes Y (fun cls d _ H => E cls d H) → PE Y body (tEX (gd X) (fun cls d _ H => E cls d H) fb))
    (hdb : (x == ("__debug__" : Str)) = false) (hd : (a == ("__debug__" : Str)) = false) (hcd : (a == ("__classdict__" : Str)) = false) :
    PE X (.Call (.Name x p) [.Lambda params body scope lpos] [] pos) (tE (gd X) (xMet metP fb)) :=
  (pe_lam3 (T := tabT) hg hm hk lk hcg hb Sg hNg hva (met_gives (X := X) Sg.nd h0 hcl) B hcode hmT hu hr Ls hdef hbind (t := fun E => tEX (gd X) (fun cls d _ H => E cls d H) fb)
    (fun A outer s H E f c hr2 => hbody (lamCx X A outer s H E scope f c) E rfl rfl rfl rfl hr2 (takes_of rfl rfl rfl rfl)) hdb hd hcd).imp fun σ H Q h => tE_met hdo h
end PI
/-! PI36: what a body leans on in its context; names. -/
namespace PI
open PySem PySem.Spec L2
structure DX (X : Cx) (k : Nat) : Prop where
  nd : X.N.Nodup
  calm : X.calm = true
  kds : PySem.W.kdsCode X.K X.env.code = true
  room : Room k X.A
  never : PassesOwn (model X.prog X.w) X.A X.env X.xe
/-- names: N the slots, L what each name is (true: its own, false: the module's) -/
structure NX (X : Cx) (N : List Str) (L : List (Str × Bool)) : Prop where
  n : X.N = N
  l : ∀ (j : Nat) (x : Str) (b : Bool), L[j]? = some (x, b) → (match b with
    | true => Vis X.env.scope x
    | false => Gl X x) ∧ (x == ("__debug__" : Str)) = false ∧ (x == ("__classdict__" : Str)) = false
def nxOne (sc : Scope) (p : Str × Bool) : Bool := (match p.2, sc.names.lookup p.1 with
  | true, some .local => true
  | true, some .cell => true
  | true, some .free => true
  | false, some .globalImplicit => true
  | _, _ => false) && (!(p.1 == ("__debug__" : Str)) && !(p.1 == ("__classdict__" : Str)))
def nxB (sc : Scope) (L : List (Str × Bool)) : Bool := L.all (nxOne sc)
theorem nxB_at {sc : Scope} {L : List (Str × Bool)} (h : nxB sc L = true) {j : Nat} {x : Str} {b : Bool} (e : L[j]? = some (x, b)) : (match b with
    | true => Vis sc x
    | false => sc.names.lookup x = some .globalImplicit) ∧ (x == ("__debug__" : Str)) = false ∧ (x == ("__classdict__" : Str)) = false := by
  have h1 := List.all_eq_true.mp h _ (List.mem_of_getElem? e)
  unfold nxOne at h1
  rw [Bool.and_eq_true, Bool.and_eq_true] at h1
  obtain ⟨h1, h2, h3⟩ := h1
  refine ⟨?_, by simpa using h2, by simpa using h3⟩
  cases b with
  | true =>
    show Vis sc x
    unfold Vis
    cases q : sc.names.lookup x with
    | none => rw [q] at h1; cases h1
    | some k =>
      rw [q] at h1
      cases k with
      | «local» => exact .inl rfl
      | cell => exact .inr (.inl rfl)
      | free => exact .inr (.inr rfl)
      | _ => cases h1
  | false =>
    show sc.names.lookup x = some .globalImplicit
    cases q : sc.names.lookup x with
    | none => rw [q] at h1; cases h1
    | some k =>
      rw [q] at h1
      cases k with
      | globalImplicit => rfl
      | _ => cases h1
theorem NX.of {X : Cx} {N : List Str} {L : List (Str × Bool)} {sc : Scope} (hn : X.N = N) (hs : X.env.scope = sc) (h : nxB sc L = true) : NX X N L := ⟨hn, fun j x b e => by
  obtain ⟨h1, h2, h3⟩ := nxB_at h e
  refine ⟨?_, h2, h3⟩
  cases b with
  | true => show Vis X.env.scope x; rw [hs]; exact h1
  | false => show X.env.scope.names.lookup x = some .globalImplicit; rw [hs]; exact h1⟩
theorem relabel_lookup {env : Env} {x : Str} {k : NameKind} (hk : k ≠ .free) : ∀ {names : List (Str × NameKind)}, names.lookup x = some k →
    (names.map fun (n, k) => if (k == NameKind.free && env.scope.kind == .function && env.kindOf n == some .cell) then (n, NameKind.cell) else (n, k)).lookup x = some k
  | [], h => by simp at h
  | (n, j) :: r, h => by
    have ih := @relabel_lookup env x k hk r
    show List.lookup x ((if (j == NameKind.free && env.scope.kind == .function && env.kindOf n == some .cell) = true then (n, NameKind.cell) else (n, j)) :: _) = _
    cases hx : x == n with
    | true =>
      simp only [List.lookup_cons, hx] at h
      cases h
      have : (k == NameKind.free) = false := by cases k <;> first | rfl | exact absurd rfl hk
      simp [List.lookup_cons, hx, this]
    | false =>
      simp only [List.lookup_cons, hx] at h
      by_cases c : (j == NameKind.free && env.scope.kind == .function && env.kindOf n == some .cell) = true
      · rw [if_pos c]; simp only [List.lookup_cons, hx]; exact ih h
      · rw [if_neg c]; simp only [List.lookup_cons, hx]; exact ih h
theorem relabel_free {env : Env} {x : Str} : ∀ {names : List (Str × NameKind)}, names.lookup x = some .free →
    (names.map fun (n, k) => if (k == NameKind.free && env.scope.kind == .function && env.kindOf n == some .cell) then (n, NameKind.cell) else (n, k)).lookup x = some .cell ∨
    (names.map fun (n, k) => if (k == NameKind.free && env.scope.kind == .function && env.kindOf n == some .cell) then (n, NameKind.cell) else (n, k)).lookup x = some .free
  | [], h => by simp at h
  | (n, j) :: r, h => by
    have ih := @relabel_free env x r
    show List.lookup x ((if (j == NameKind.free && env.scope.kind == .function && env.kindOf n == some .cell) = true then (n, NameKind.cell) else (n, j)) :: _) = _ ∨ List.lookup x ((if (j == NameKind.free && env.scope.kind == .function && env.kindOf n == some .cell) = true then (n, NameKind.cell) else (n, j)) :: _) = _
    cases hx : x == n with
    | true =>
      simp only [List.lookup_cons, hx] at h
      cases h
      by_cases c : (NameKind.free == NameKind.free && env.scope.kind == .function && env.kindOf n == some .cell) = true
      · rw [if_pos c]; exact .inl (by simp [List.lookup_cons, hx])
      · rw [if_neg c]; exact .inr (by simp [List.lookup_cons, hx])
    | false =>
      simp only [List.lookup_cons, hx] at h
      by_cases c : (j == NameKind.free && env.scope.kind == .function && env.kindOf n == some .cell) = true
      · rw [if_pos c]; simp only [List.lookup_cons, hx]; exact ih h
      · rw [if_neg c]; simp only [List.lookup_cons, hx]; exact ih h
theorem NX.blk {X Y : Cx} {N : List Str} {L : List (Str × Bool)} {sc : Scope} (hn : X.N = N) (hY : BlkX X sc Y) (h : nxB sc L = true) : NX Y N L := by
  obtain ⟨s, H, C, cl, fp, rfl⟩ := hY
  refine ⟨hn, fun j x b e => ?_⟩
  obtain ⟨h1, h2, h3⟩ := nxB_at h e
  refine ⟨?_, h2, h3⟩
  cases b with
  | true =>
    show Vis (relabel sc X.env) x
    rcases h1 with h1 | h1 | h1
    · exact .inl (relabel_lookup (by decide) h1)
    · exact .inr (.inl (relabel_lookup (by decide) h1))
    · rcases relabel_free (env := X.env) h1 with q | q
      · exact .inr (.inl q)
      · exact .inr (.inr q)
  | false => exact relabel_lookup (by decide) h1
theorem DX.blk {X Y : Cx} {k : Nat} {sc : Scope} (D : DX X k) (hY : BlkX X sc Y) : DX Y k := by
  obtain ⟨s, H, C, cl, fp, rfl⟩ := hY
  exact ⟨D.nd, D.calm, D.kds, D.room, PassesOwn.never⟩
theorem DX.nox {X : Cx} {k : Nat} (hN : X.N.Nodup) (hc : X.calm = true) (hk : PySem.W.kdsCode X.K X.env.code = true) (hr : Room k X.A) : DX X.nox k := ⟨hN, hc, hk, hr, PassesOwn.never⟩
variable {X : Cx} {N : List Str} {L : List (Str × Bool)} {k : Nat}
theorem DX.hu (D : DX X k) : X.A.units + 200 < cLine := by have := D.room.un; omega
theorem DX.h64 (D : DX X k) : X.A.units + 64 < cLine := by have := D.room.un; omega
theorem DX.h65 (D : DX X k) : X.A.units + 65 < cLine := by have := D.room.un; omega
theorem DX.h70 (D : DX X k) : X.A.units + 70 < cLine := by have := D.room.un; omega
theorem DX.h10 (D : DX X k) : X.A.units + 10 < cLine := by have := D.room.un; omega
theorem NX.var (n : NX X N L) (i j : Nat) {x : Str} {pos : Pos} (hi : N[i]? = some x) (hj : L[j]? = some (x, true)) : PE X (.Name x pos) (tVar i) :=
  pe_var (by rw [n.n]; exact hi) (n.l j x true hj).1 (n.l j x true hj).2.1 (n.l j x true hj).2.2
theorem NX.gl (n : NX X N L) (j : Nat) {x : Str} (hj : L[j]? = some (x, false)) : Gl X x := (n.l j x false hj).1
theorem NX.db (n : NX X N L) (j : Nat) {x : Str} {b : Bool} (hj : L[j]? = some (x, b)) : (x == ("__debug__" : Str)) = false := (n.l j x b hj).2.1
theorem NX.cd (n : NX X N L) (j : Nat) {x : Str} {b : Bool} (hj : L[j]? = some (x, b)) : (x == ("__classdict__" : Str)) = false := (n.l j x b hj).2.2
/-- the module's name x holds v -/
def Con (mg : Str → Option Value) (x : Str) (v : V) : Prop := ∃ u, mg x = some u ∧ RelV v u
theorem NX.con (n : NX X N L) (j : Nat) {x : Str} {v : V} {pos : Pos} (hj : L[j]? = some (x, false)) (h : Con X.mg x v) : PE X (.Name x pos) (tC v) := by
  obtain ⟨u, h1, h2⟩ := h
  exact pe_glob (n.gl j hj) h1 h2 (n.db j hj)

/-! ### readings of an expression -/
theorem eV {e : Expr} {i : Nat} (h : PE X e (tVar i)) : PE X e (tE (gd X) (xVar i)) := h.imp fun _ _ _ q => tE_var q
theorem rV {e : Expr} {i : Nat} (h : PE X e (tVar i)) : PE X e (tR (gd X) (rVar i)) := h.imp fun _ _ _ q => tR_var q
theorem rE {e : Expr} {f : Ex} (h : PE X e (tE (gd X) f)) : PE X e (tR (gd X) (rOf f)) := h.imp fun _ _ _ q => tR_of q
theorem eC {e : Expr} {v : V} (p : P) (h : PE X e (tC v)) (hp : ∀ G H O, Rep G H O p v) : PE X e (tE (gd X) (xC p)) := h.imp fun _ _ _ q => tE_const (hp _) q
theorem eCk {e : Expr} {v : V} (p : P) (h : PE X e (tC v)) (hp : ∀ H O, Rep (gd X) H O p v) : PE X e (tE (gd X) (xC p)) := h.imp fun _ _ _ q => tE_const hp q
theorem rp_int {i : Int} (G : Gd) (H : Hp) (O : Addr → Prop) : Rep G H O (.int i) (.int i) := by rw [Rep]
theorem rp_bl {i : Bool} (G : Gd) (H : Hp) (O : Addr → Prop) : Rep G H O (.bool i) (.bl i) := by rw [Rep]
theorem rp_str {i : Str} (G : Gd) (H : Hp) (O : Addr → Prop) : Rep G H O (.str i) (.str i) := by rw [Rep]
theorem rp_non (G : Gd) (H : Hp) (O : Addr → Prop) : Rep G H O .none .non := by rw [Rep]
theorem kI {i : Int} {j : Nat} {pos : Pos} : PE X (.Constant (.int i) j pos) (tE (gd X) (xC (.int i))) := eC _ pe_int rp_int
theorem kB {i : Bool} {j : Nat} {pos : Pos} : PE X (.Constant (.bool i) j pos) (tE (gd X) (xC (.bool i))) := eC _ pe_bl rp_bl
theorem kS {i : Str} {j : Nat} {pos : Pos} : PE X (.Constant (.str i) j pos) (tE (gd X) (xC (.str i))) := eC _ pe_str rp_str
theorem kN {j : Nat} {pos : Pos} : PE X (.Constant .none j pos) (tE (gd X) (xC .none)) := eC _ pe_non rp_non

/-! ### lists of expressions -/
def NoSt : Expr → Prop
  | .Starred _ _ => False
  | _ => True
theorem st1 {e : Expr} {es : List Expr} {env : Env} (h : NoSt e) : starEach (e :: es) env = (false, eval e env) :: starEach es env := by
  cases e <;> first | rfl | exact h.elim
theorem stN {env : Env} {pos : Pos} : ∀ {es : List Expr}, (∀ e ∈ es, NoSt e) → (backTo pos (starEach es env)).any (·.1) = false
  | [], _ => rfl
  | e :: es, h => by
    rw [st1 (h e List.mem_cons_self)]
    show ((false : Bool) || (backTo pos (starEach es env)).any (·.1)) = false
    rw [Bool.false_or]
    exact stN fun e he => h e (List.mem_cons_of_mem _ he)
/-- arguments, each handed on -/
inductive As (X : Cx) : List Expr → List Ex → Prop
  | nil : As X [] []
  | cons {e : Expr} {f : Ex} {es : List Expr} {fs : List Ex} : PE X e (tE (gd X) f) → NoSt e → As X es fs → As X (e :: es) (f :: fs)
theorem As.no : ∀ {es : List Expr} {fs : List Ex}, As X es fs → ∀ e ∈ es, NoSt e
  | _, _, .nil, e, he => by cases he
  | _, _, .cons h n r, e, he => by
    rcases List.mem_cons.mp he with q | q
    · rw [q]; exact n
    · exact r.no e q
theorem As.pa : ∀ {es : List Expr} {fs : List Ex}, As X es fs → PA X es (tL (gd X) fs)
  | _, _, .nil => pL_nil
  | _, _, .cons h n r => pL_cons h r.pa (st1 n)
theorem As.po : ∀ {es : List Expr} {fs : List Ex}, As X es fs → PA X es (tO (gd X) fs)
  | _, _, .nil => pO_nil'
  | _, _, .cons h n r => pO_cons' h r.po (st1 n)
/-- arguments that are read alone -/
inductive Rs (X : Cx) : List Expr → List Rx → Prop
  | nil : Rs X [] []
  | cons {e : Expr} {f : Rx} {es : List Expr} {fs : List Rx} : PE X e (tR (gd X) f) → NoSt e → Rs X es fs → Rs X (e :: es) (f :: fs)
theorem Rs.no : ∀ {es : List Expr} {fs : List Rx}, Rs X es fs → ∀ e ∈ es, NoSt e
  | _, _, .nil, e, he => by cases he
  | _, _, .cons h n r, e, he => by
    rcases List.mem_cons.mp he with q | q
    · rw [q]; exact n
    · exact r.no e q
theorem Rs.pa : ∀ {es : List Expr} {fs : List Rx}, Rs X es fs → PA X es (tRL (gd X) fs)
  | _, _, .nil => pRL_nil
  | _, _, .cons h n r => pRL_cons h r.pa (st1 n)
/-- a display's elements -/
inductive Ds (X : Cx) : List Expr → List (Bool × Ex) → Prop
  | nil : Ds X [] []
  | cons {e : Expr} {f : Ex} {es : List Expr} {fs : List (Bool × Ex)} : PE X e (tE (gd X) f) → NoSt e → Ds X es fs → Ds X (e :: es) ((false, f) :: fs)
  | star {e : Expr} {f : Ex} {es : List Expr} {fs : List (Bool × Ex)} {p : Pos} : PE X e (tE (gd X) f) → Ds X es fs → Ds X (.Starred e p :: es) ((true, f) :: fs)
theorem Ds.pa : ∀ {es : List Expr} {fs : List (Bool × Ex)}, Ds X es fs → PA X es (tD (gd X) fs)
  | _, _, .nil => pD_nil
  | _, _, .cons h n r => pD_cons h r.pa (st1 n)
  | _, _, .star h r => pD_star h r.pa rfl
theorem F_tup {es : List Expr} {fs : List (Bool × Ex)} {j : Nat} {pos : Pos} (h : Ds X es fs) : PE X (.Tuple es j pos) (tE (gd X) (xTup fs)) := pE_tup h.pa
theorem F_lst {es : List Expr} {fs : List (Bool × Ex)} {pos : Pos} (h : Ds X es fs) : PE X (.List es pos) (tE (gd X) (xLst fs)) := pE_lst h.pa

/-! ### operators -/
section
variable {a b : Expr} {f g : Rx} {pos : Pos}
theorem F_add (ha : PE X a (tR (gd X) f)) (hb : PE X b (tR (gd X) g)) : PE X (.BinOp a .Add b pos) (tE (gd X) (xBin addP f g)) := pE_bin op_addP sem_add ha hb
theorem F_sub (ha : PE X a (tR (gd X) f)) (hb : PE X b (tR (gd X) g)) : PE X (.BinOp a .Sub b pos) (tE (gd X) (xBin subP f g)) := pE_bin op_sub sem_sub ha hb
theorem F_mul (ha : PE X a (tR (gd X) f)) (hb : PE X b (tR (gd X) g)) : PE X (.BinOp a .Mult b pos) (tE (gd X) (xBin mulP f g)) := pE_bin op_mulP sem_mul ha hb
theorem F_mod (ha : PE X a (tR (gd X) f)) (hb : PE X b (tR (gd X) g)) : PE X (.BinOp a .Mod b pos) (tE (gd X) (xBin modP f g)) := pE_bin op_mod sem_mod ha hb
theorem F_fdiv (ha : PE X a (tR (gd X) f)) (hb : PE X b (tR (gd X) g)) : PE X (.BinOp a .FloorDiv b pos) (tE (gd X) (xBin fdivP f g)) := pE_bin op_fdiv sem_fdiv ha hb
theorem F_pow (ha : PE X a (tR (gd X) f)) (hb : PE X b (tR (gd X) g)) : PE X (.BinOp a .Pow b pos) (tE (gd X) (xBin powP f g)) := pE_bin op_powW sem_pow ha hb
/-- not marked behind in -/
theorem bm {op : CmpOp} (e : Expr) (h : op ≠ .In ∧ op ≠ .NotIn) : behindInMarks op e = false := by
  unfold behindInMarks
  split
  · obtain ⟨h1, h2⟩ := h
    cases op <;> first | rfl | exact absurd rfl h1 | exact absurd rfl h2 | simp
  · rfl
/-- a comparison, as a value and as a test -/
structure EC (X : Cx) (ex : Expr) (f : Ex) : Prop where
  e : PE X ex (tE (gd X) f)
  c : PT X ex (tC' (gd X) (bOf f))
theorem EC.of {op : CmpOp} {r2 : R2} {o : SV → SV → Option Bool} (hr : OpR X (compareOp op) r2) (hop : CmpSem (gd X) o r2) (ha : PE X a (tR (gd X) f)) (hb : PE X b (tR (gd X) g)) (hm : behindInMarks op b = false) : EC X (.Compare a [op] [b] pos) (xCmp o f g) := ⟨pE_cmp hr hop ha hb hm, pC_cmp hr hop ha hb hm⟩
theorem F_eq (D : DX X k) (ha : PE X a (tR (gd X) f)) (hb : PE X b (tR (gd X) g)) : EC X (.Compare a [.Eq] [b] pos) (xCmp eqS f g) := .of (op_eqD D.h64) sem_eq ha hb (bm _ (by decide))
theorem F_ne (D : DX X k) (ha : PE X a (tR (gd X) f)) (hb : PE X b (tR (gd X) g)) : EC X (.Compare a [.NotEq] [b] pos) (xCmp neS f g) := .of (op_neD D.h64) sem_ne ha hb (bm _ (by decide))
theorem F_lt (D : DX X k) (ha : PE X a (tR (gd X) f)) (hb : PE X b (tR (gd X) g)) : EC X (.Compare a [.Lt] [b] pos) (xCmp ltS f g) := .of (op_ltP D.h64) sem_lt ha hb (bm _ (by decide))
theorem F_le (ha : PE X a (tR (gd X) f)) (hb : PE X b (tR (gd X) g)) : EC X (.Compare a [.LtE] [b] pos) (xCmp leS f g) := .of op_le sem_le ha hb (bm _ (by decide))
theorem F_gt (ha : PE X a (tR (gd X) f)) (hb : PE X b (tR (gd X) g)) : EC X (.Compare a [.Gt] [b] pos) (xCmp gtS f g) := .of op_gt sem_gt ha hb (bm _ (by decide))
theorem F_ge (ha : PE X a (tR (gd X) f)) (hb : PE X b (tR (gd X) g)) : EC X (.Compare a [.GtE] [b] pos) (xCmp geS f g) := .of op_ge sem_ge ha hb (bm _ (by decide))
def NoSet : Expr → Prop
  | .Set _ _ _ => False
  | _ => True
theorem bmi {op : CmpOp} {e : Expr} (h : NoSet e) : behindInMarks op e = false := by
  unfold behindInMarks
  split
  · exact h.elim
  · rfl
theorem F_in (D : DX X k) (ha : PE X a (tR (gd X) f)) (hb : PE X b (tR (gd X) g)) (n : NoSet b) : EC X (.Compare a [.In] [b] pos) (xCmp (inS false) f g) := .of (op_inAll D.h65) sem_in ha hb (bmi n)
theorem F_nin (D : DX X k) (ha : PE X a (tR (gd X) f)) (hb : PE X b (tR (gd X) g)) (n : NoSet b) : EC X (.Compare a [.NotIn] [b] pos) (xCmp (inS true) f g) := .of (op_ninAll D.h65) sem_in ha hb (bmi n)
theorem tE_isNone {G : Gd} {f : Rx} {σ : L2.St} {H : Hp} {Q : VK} (h : tE G (xNone false f) σ H Q) : tOp (fun x y H Q => y = .non ∧ Q (.bl (decide (x = .non))) H) (tR G f) (tC .non) σ H Q := by
  obtain ⟨c, hs, oa, sl, w, sv, b, w', S, e, q⟩ := h
  unfold xNone at e
  split at e
  · rename_i p w1 e1
    cases e
    refine ⟨c, hs, oa, sl, w, _, w', S, e1, fun v H1 hs1 S1 x1 sb1 r1 => ⟨rfl, ?_⟩⟩
    rw [repR_non r1]
    exact q _ H1 hs1 S1 x1 sb1 (by rw [Bool.false_xor]; exact resE_bool)
  · cases e
theorem tE_notNone {G : Gd} {f : Rx} {σ : L2.St} {H : Hp} {Q : VK} (h : tE G (xNone true f) σ H Q) : tOp (fun x y H Q => y = .non ∧ Q (.bl (!decide (x = .non))) H) (tR G f) (tC .non) σ H Q := by
  obtain ⟨c, hs, oa, sl, w, sv, b, w', S, e, q⟩ := h
  unfold xNone at e
  split at e
  · rename_i p w1 e1
    cases e
    refine ⟨c, hs, oa, sl, w, _, w', S, e1, fun v H1 hs1 S1 x1 sb1 r1 => ⟨rfl, ?_⟩⟩
    rw [repR_non r1]
    exact q _ H1 hs1 S1 x1 sb1 (by rw [Bool.true_xor]; exact resE_bool)
  · cases e
theorem tE_isBk {G : Gd} {kk : Bool} {f : Rx} {σ : L2.St} {H : Hp} {Q : VK} (h : tE G (xIsB false kk f) σ H Q) : tOp rIsB (tR G f) (tC (.bl kk)) σ H Q := by
  obtain ⟨c, hs, oa, sl, w, sv, b, w', S, e, q⟩ := h
  unfold xIsB at e
  split at e
  · rename_i b2 w1 e1
    cases e
    exact ⟨c, hs, oa, sl, w, _, w', S, e1, fun v H1 hs1 S1 x1 sb1 r1 => ⟨b2, kk, repR_bool r1, rfl, q _ H1 hs1 S1 x1 sb1 (by rw [Bool.false_xor]; exact resE_bool)⟩⟩
  · cases e
theorem tE_notBk {G : Gd} {kk : Bool} {f : Rx} {σ : L2.St} {H : Hp} {Q : VK} (h : tE G (xIsB true kk f) σ H Q) : tOp rNotB (tR G f) (tC (.bl kk)) σ H Q := by
  obtain ⟨c, hs, oa, sl, w, sv, b, w', S, e, q⟩ := h
  unfold xIsB at e
  split at e
  · rename_i b2 w1 e1
    cases e
    exact ⟨c, hs, oa, sl, w, _, w', S, e1, fun v H1 hs1 S1 x1 sb1 r1 => ⟨b2, kk, repR_bool r1, rfl, q _ H1 hs1 S1 x1 sb1 (by rw [Bool.true_xor]; exact resE_bool)⟩⟩
  · cases e
theorem F_isN {j : Nat} {p : Pos} (ha : PE X a (tR (gd X) f)) : EC X (.Compare a [.Is] [.Constant .none j p] pos) (xNone false f) := ⟨pE_isNone ha, (pt_cmpR op_isN ha pe_non (nomark _)).imp fun _ _ _ h => tE_isNone (tC_test h)⟩
theorem F_notN {j : Nat} {p : Pos} (ha : PE X a (tR (gd X) f)) : EC X (.Compare a [.IsNot] [.Constant .none j p] pos) (xNone true f) := ⟨pE_notNone ha, (pt_cmpR op_notN ha pe_non (nomark _)).imp fun _ _ _ h => tE_notNone (tC_test h)⟩
theorem F_isB {j : Nat} {kk : Bool} {p : Pos} (ha : PE X a (tR (gd X) f)) : EC X (.Compare a [.Is] [.Constant (.bool kk) j p] pos) (xIsB false kk f) := ⟨pE_isB ha, (pt_cmpR op_isBl ha pe_bl (nomark _)).imp fun _ _ _ h => tE_isBk (tC_test h)⟩
theorem F_notB {j : Nat} {kk : Bool} {p : Pos} (ha : PE X a (tR (gd X) f)) : EC X (.Compare a [.IsNot] [.Constant (.bool kk) j p] pos) (xIsB true kk f) := ⟨pE_notB ha, (pt_cmpR op_notBl ha pe_bl (nomark _)).imp fun _ _ _ h => tE_notBk (tC_test h)⟩
/-- a op b op' c -/
theorem EC.ch {d : Expr} {h : Rx} {op op' : CmpOp} {r r' : R2} {o1 o2 : SV → SV → Option Bool} (ho : OpR X (compareOp op) r) (h1 : CmpSem (gd X) o1 r) (ho' : OpR X (compareOp op') r') (h2 : CmpSem (gd X) o2 r') (ha : PE X a (tR (gd X) f)) (hb : PE X b (tR (gd X) g)) (hc : PE X d (tR (gd X) h))
    (hm : lastMarks [op, op'] [b, d] = false) : EC X (.Compare a [op, op'] [b, d] pos) (xChain o1 o2 f g h) := ⟨pE_chain ho h1 ho' h2 ha hb hc hm, pC_chain ho h1 ho' h2 ha hb hc hm⟩
theorem F_lele {d : Expr} {h : Rx} (ha : PE X a (tR (gd X) f)) (hb : PE X b (tR (gd X) g)) (hc : PE X d (tR (gd X) h)) : EC X (.Compare a [.LtE, .LtE] [b, d] pos) (xChain leS leS f g h) := .ch op_le sem_le op_le sem_le ha hb hc (bm _ (by decide))
theorem F_ltle (D : DX X k) {d : Expr} {h : Rx} (ha : PE X a (tR (gd X) f)) (hb : PE X b (tR (gd X) g)) (hc : PE X d (tR (gd X) h)) : EC X (.Compare a [.Lt, .LtE] [b, d] pos) (xChain ltS leS f g h) := .ch (op_ltP D.h64) sem_lt op_le sem_le ha hb hc (bm _ (by decide))
theorem F_lelt (D : DX X k) {d : Expr} {h : Rx} (ha : PE X a (tR (gd X) f)) (hb : PE X b (tR (gd X) g)) (hc : PE X d (tR (gd X) h)) : EC X (.Compare a [.LtE, .Lt] [b, d] pos) (xChain leS ltS f g h) := .ch op_le sem_le (op_ltP D.h64) sem_lt ha hb hc (bm _ (by decide))
theorem F_ltlt (D : DX X k) {d : Expr} {h : Rx} (ha : PE X a (tR (gd X) f)) (hb : PE X b (tR (gd X) g)) (hc : PE X d (tR (gd X) h)) : EC X (.Compare a [.Lt, .Lt] [b, d] pos) (xChain ltS ltS f g h) := .ch (op_ltP D.h64) sem_lt (op_ltP D.h64) sem_lt ha hb hc (bm _ (by decide))
end
end PI
/-! PI37: forms: expressions. -/
namespace PI
open PySem PySem.Spec L2
/-- names that are stored -/
def STX (X : Cx) (W : List Str) : Prop := ∀ (j : Nat) (x : Str), W[j]? = some x → Loc X.env.scope x ∧ (X.fn x = true ∨ X.env.scope.names.lookup x = some .local)
def stxB (sc : Scope) (W : List Str) : Bool := W.all fun x => match sc.names.lookup x with
  | some .local => true
  | some .cell => true
  | _ => false
theorem stxB_at {sc : Scope} {W : List Str} (h : stxB sc W = true) {j : Nat} {x : Str} (e : W[j]? = some x) : sc.names.lookup x = some .local ∨ sc.names.lookup x = some .cell := by
  have h1 := List.all_eq_true.mp h _ (List.mem_of_getElem? e)
  cases q : sc.names.lookup x with
  | none => rw [q] at h1; cases h1
  | some k =>
    rw [q] at h1
    cases k with
    | «local» => exact .inl rfl
    | cell => exact .inr rfl
    | _ => cases h1
def BX (X : Cx) (sc : Scope) : Prop := ∀ x, (sc.names.lookup x = some .cell ∨ sc.names.lookup x = some .free) → (X.env.scope.names.lookup x = some .cell ∨ X.env.scope.names.lookup x = some .free)
structure QX (X : Cx) (k : Nat) (N : List Str) (L : List (Str × Bool)) (W : List Str) (sc : Scope) : Prop where
  d : DX X k
  n : NX X N L
  w : STX X W
  b : BX X sc
/-- what holds of a module -/
abbrev MD : Type := Program → World → PySem.W.Frag → (Str → Option Value) → Heap → Prop
abbrev MX (M : MD) (X : Cx) : Prop := M X.prog X.w X.K X.mg X.base
theorem QX.of {X : Cx} {k : Nat} {N : List Str} {L : List (Str × Bool)} {W : List Str} {sc : Scope} (D : DX X k) (hn : X.N = N) (hs : X.env.scope = sc) (hf : ∀ x, X.fn x = true) (h1 : nxB sc L = true) (h2 : stxB sc W = true) : QX X k N L W sc :=
  ⟨D, .of hn hs h1, fun j x e => ⟨by rw [hs]; exact stxB_at h2 e, .inl (hf x)⟩, fun x h => by rw [hs]; exact h⟩
theorem QX.blk {X Y : Cx} {k : Nat} {N : List Str} {L L' : List (Str × Bool)} {W W' : List Str} {sc sc' : Scope} (Q : QX X k N L W sc) (hY : BlkX X sc' Y) (h1 : nxB sc' L' = true) (h2 : stxB sc' W' = true) : QX Y k N L' W' sc' := by
  refine ⟨Q.d.blk hY, .blk Q.n.n hY h1, fun j x e => ?_, fun x h => ?_⟩
  · obtain ⟨s, H, C, cl, fp, rfl⟩ := hY
    rcases stxB_at h2 e with q | q
    · have z : (relabel sc' X.env).names.lookup x = some .local := relabel_lookup (by decide) q
      exact ⟨.inl z, .inr z⟩
    · have z : (relabel sc' X.env).names.lookup x = some .cell := relabel_lookup (by decide) q
      refine ⟨.inr z, .inl ?_⟩
      show (sc'.names.lookup x == some .cell) = true
      rw [q]; rfl
  · obtain ⟨s, H, C, cl, fp, rfl⟩ := hY
    rcases h with q | q
    · exact .inl (relabel_lookup (by decide) q)
    · exact relabel_free q
variable {X : Cx} {N : List Str} {L : List (Str × Bool)} {W : List Str} {sc : Scope} {k : Nat} {M : MD}
theorem QX.blkOk (Q : QX X k N L W sc) {scope : Scope} {own : List (Str × Nat)} (h : blkC N sc scope own = true) : BlkOk X.N X.env.scope scope own := by
  have h1 := blkOk_by h
  rw [← Q.n.n] at h1
  exact ⟨h1.kind, h1.uniq, h1.ix, fun y hy hf => Q.b _ (h1.free y hy hf), h1.own⟩
/-! ### places -/
def NoSl : Expr → Prop
  | .Slice _ _ _ _ => False
  | _ => True
theorem plainIx {b : Expr} (h : NoSl b) : PlainIx b := fun o i => by cases b <;> first | rfl | exact h.elim
section
variable {a b : Expr} {f g : Rx} {pos : Pos}
theorem F_ix (D : DX X k) (ha : PE X a (tR (gd X) f)) (hb : PE X b (tR (gd X) g)) (n : NoSl b) : PE X (.Subscript a b pos) (tE (gd X) (xIxA f g)) := pE_ixA D.h10 ha hb (plainIx n)
theorem F_kix {t : Addr} {tbl : List (Str × SV)} (K : KTab (gd X) t tbl) (hn : PE X a (tC (.ref t))) (hb : PE X b (tR (gd X) g)) (n : NoSl b) : PE X (.Subscript a b pos) (tE (gd X) (xKIx tbl g)) := pE_kix K hn hb (plainIx n)
theorem F_kin {t : Addr} {tbl : List (Str × SV)} (K : KTab (gd X) t tbl) (hn : PE X a (tC (.ref t))) (hb : PE X b (tR (gd X) g)) (n : NoSet a) : EC X (.Compare b [.In] [a] pos) (xKIn false tbl g) := ⟨pE_kin K hn hb (bmi n), pC_kin K hn hb (bmi n)⟩
theorem F_knin {t : Addr} {tbl : List (Str × SV)} (K : KTab (gd X) t tbl) (hn : PE X a (tC (.ref t))) (hb : PE X b (tR (gd X) g)) (n : NoSet a) : EC X (.Compare b [.NotIn] [a] pos) (xKIn true tbl g) := ⟨pE_knin K hn hb (bmi n), pC_knin K hn hb (bmi n)⟩
end

/-! ### and, or, not, if -/
theorem F_and {e : Expr} {es : List Expr} {f : Ex} {fs : List Ex} {pos : Pos} (h : Exprs X (e :: es) (f :: fs)) : PE X (.BoolOp .And (e :: es) pos) (tE (gd X) (xB (xAnd (f :: fs)))) := pE_and (List.cons_ne_nil _ _) h
theorem F_or {e : Expr} {es : List Expr} {f : Ex} {fs : List Ex} {pos : Pos} (h : Exprs X (e :: es) (f :: fs)) : PE X (.BoolOp .Or (e :: es) pos) (tE (gd X) (xB (xOr (f :: fs)))) := pE_or (List.cons_ne_nil _ _) h
theorem T_and {e : Expr} {es : List Expr} {f : Bx} {fs : List Bx} {pos : Pos} (h : Tests X (e :: es) (f :: fs)) : PT X (.BoolOp .And (e :: es) pos) (tC' (gd X) (bAnd (f :: fs))) := (pW_and (List.cons_ne_nil _ _) h).pt
theorem T_or {e : Expr} {es : List Expr} {f : Bx} {fs : List Bx} {pos : Pos} (h : Tests X (e :: es) (f :: fs)) : PT X (.BoolOp .Or (e :: es) pos) (tC' (gd X) (bOr (f :: fs))) := (pW_or (List.cons_ne_nil _ _) h).pt
def PlainT : Expr → Prop
  | .UnaryOp _ _ _ => False
  | .BoolOp _ _ _ => False
  | .IfExp _ _ _ _ => False
  | .Compare _ _ _ _ => False
  | _ => True
theorem T_val {e : Expr} {f : Ex} (h : PE X e (tE (gd X) f)) (n : PlainT e) : PT X e (tC' (gd X) (bOf f)) := pC_val h fun _ => by cases e <;> first | rfl | exact n.elim

/-! ### calls -/
theorem F_call {x : Str} {j m : Nat} {F : Fn} {e : Expr} {es : List Expr} {f : Ex} {fs : List Ex} {p pos : Pos} (D : DX X k) (n : NX X N L) (i : Nat) (hi : L[i]? = some (x, false)) (C : Callee X.prog X.w X.K X.mg X.base x j m F) (hj : j ≤ k) (hm : m = (f :: fs).length) (h : As X (e :: es) (f :: fs)) :
    PE X (.Call (.Name x p) (e :: es) [] pos) (tE (gd X) (xCall F (f :: fs))) := by
  subst hm
  exact pE_call (C.mono hj) D.room (n.gl i hi) h.pa (n.db i hi) (st1 (h.no e List.mem_cons_self)) (stN fun z hz => h.no z (List.mem_cons_of_mem _ hz))
theorem F_callV {x : Str} {m : Nat} {cs : List (Str × Fn)} {e : Expr} {es : List Expr} {f : Ex} {fs : List Ex} {p pos : Pos} (D : DX X k) (n : NX X N L) (s i : Nat) (hs : N[s]? = some x) (hi : L[i]? = some (x, true)) (hm : m = (f :: fs).length) (C : ∀ y F, cs.lookup y = some F → Callee X.prog X.w X.K X.mg X.base y k m F) (h : As X (e :: es) (f :: fs)) :
    PE X (.Call (.Name x p) (e :: es) [] pos) (tE (gd X) (xCallV s cs (f :: fs))) := by
  subst hm
  exact pE_callV C D.room (by rw [n.n]; exact hs) (n.l i x true hi).1 h.pa (n.db i hi) (n.cd i hi) (st1 (h.no e List.mem_cons_self)) (stN fun z hz => h.no z (List.mem_cons_of_mem _ hz))

/-! ### built-ins -/
section
variable {e e2 : Expr} {f g : Rx} {p pos : Pos}
theorem bt1 {id : String} {x : Str} {fs : List Rx} {es : List Expr} {o : List SV → List (List Int) → Option (SV × Bool)} {r : List V → Hp → VK → Prop} (n : NX X N L) (i : Nat) (hi : L[i]? = some (x, false)) (hm : X.mg x = none) (hc : CallR X (.builtin id) r) (hop : CallSem (gd X) o r) (hv : bootBuiltins x = some (.builtin id)) (hn : x ≠ "__name__") (h : Rs X (e :: es) fs) :
    PE X (.Call (.Name x p) (e :: es) [] pos) (tE (gd X) (xBlt o fs)) := pE_bltF hc hop (n.gl i hi) hm hv h.pa hn (n.db i hi) (st1 (h.no e List.mem_cons_self)) (stN fun z hz => h.no z (List.mem_cons_of_mem _ hz))
theorem btT {T : String} {x : Str} {fs : List Rx} {es : List Expr} {o : List SV → List (List Int) → Option (SV × Bool)} {r : List V → Hp → VK → Prop} (n : NX X N L) (i : Nat) (hi : L[i]? = some (x, false)) (hm : X.mg x = none) (hc : CallR X (.type T) r) (hop : CallSem (gd X) o r) (hv : bootBuiltins x = some (.type T)) (hn : x ≠ "__name__") (h : Rs X (e :: es) fs) :
    PE X (.Call (.Name x p) (e :: es) [] pos) (tE (gd X) (xBlt o fs)) := pE_bltT hc hop (n.gl i hi) hm hv h.pa hn (n.db i hi) (st1 (h.no e List.mem_cons_self)) (stN fun z hz => h.no z (List.mem_cons_of_mem _ hz))
theorem bb_len : bootBuiltins ("len" : Str) = some (.builtin "len") := by decide +kernel
theorem bb_all : bootBuiltins ("all" : Str) = some (.builtin "all") := by decide +kernel
theorem bb_any : bootBuiltins ("any" : Str) = some (.builtin "any") := by decide +kernel
theorem bb_sum : bootBuiltins ("sum" : Str) = some (.builtin "sum") := by decide +kernel
theorem bb_max : bootBuiltins ("max" : Str) = some (.builtin "max") := by decide +kernel
theorem bb_min : bootBuiltins ("min" : Str) = some (.builtin "min") := by decide +kernel
theorem bb_abs : bootBuiltins ("abs" : Str) = some (.builtin "abs") := by decide +kernel
theorem bb_sorted : bootBuiltins ("sorted" : Str) = some (.builtin "sorted") := by decide +kernel
theorem bb_int : bootBuiltins ("int" : Str) = some (.type "int") := by decide +kernel
theorem bb_tuple : bootBuiltins ("tuple" : Str) = some (.type "tuple") := by decide +kernel
theorem bb_list : bootBuiltins ("list" : Str) = some (.type "list") := by decide +kernel
theorem bb_str : bootBuiltins ("str" : Str) = some (.type "str") := by decide +kernel
theorem bb_bool : bootBuiltins ("bool" : Str) = some (.type "bool") := by decide +kernel
theorem bb_dict : bootBuiltins ("dict" : Str) = some (.type "dict") := by decide +kernel
theorem nn_len : (("len" : Str)) ≠ "__name__" := by decide +kernel
theorem nn_all : (("all" : Str)) ≠ "__name__" := by decide +kernel
theorem nn_any : (("any" : Str)) ≠ "__name__" := by decide +kernel
theorem nn_sum : (("sum" : Str)) ≠ "__name__" := by decide +kernel
theorem nn_max : (("max" : Str)) ≠ "__name__" := by decide +kernel
theorem nn_min : (("min" : Str)) ≠ "__name__" := by decide +kernel
theorem nn_abs : (("abs" : Str)) ≠ "__name__" := by decide +kernel
theorem nn_sorted : (("sorted" : Str)) ≠ "__name__" := by decide +kernel
theorem nn_int : (("int" : Str)) ≠ "__name__" := by decide +kernel
theorem nn_tuple : (("tuple" : Str)) ≠ "__name__" := by decide +kernel
theorem nn_list : (("list" : Str)) ≠ "__name__" := by decide +kernel
theorem nn_str : (("str" : Str)) ≠ "__name__" := by decide +kernel
theorem nn_bool : (("bool" : Str)) ≠ "__name__" := by decide +kernel
theorem nn_dict : (("dict" : Str)) ≠ "__name__" := by decide +kernel
theorem F_len (n : NX X N L) (i : Nat) (hi : L[i]? = some (("len" : Str), false)) (hm : X.mg "len" = none) (h : PE X e (tR (gd X) f)) (ns : NoSt e) : PE X (.Call (.Name "len" p) [e] [] pos) (tE (gd X) (xBlt lenS [f])) := bt1 n i hi hm (call_len.or call_lenDic) sem_len bb_len nn_len (.cons h ns .nil)
theorem F_all (D : DX X k) (n : NX X N L) (i : Nat) (hi : L[i]? = some (("all" : Str), false)) (hm : X.mg "all" = none) (h : PE X e (tR (gd X) f)) (ns : NoSt e) : PE X (.Call (.Name "all" p) [e] [] pos) (tE (gd X) (xBlt allS [f])) := bt1 n i hi hm (cr_all D.calm) sem_all bb_all nn_all (.cons h ns .nil)
theorem F_any (D : DX X k) (n : NX X N L) (i : Nat) (hi : L[i]? = some (("any" : Str), false)) (hm : X.mg "any" = none) (h : PE X e (tR (gd X) f)) (ns : NoSt e) : PE X (.Call (.Name "any" p) [e] [] pos) (tE (gd X) (xBlt anyS [f])) := bt1 n i hi hm (cr_any D.calm) sem_any bb_any nn_any (.cons h ns .nil)
theorem F_sum (D : DX X k) (n : NX X N L) (i : Nat) (hi : L[i]? = some (("sum" : Str), false)) (hm : X.mg "sum" = none) (h : PE X e (tR (gd X) f)) (ns : NoSt e) : PE X (.Call (.Name "sum" p) [e] [] pos) (tE (gd X) (xBlt (numsS fun ns => some ns.sum) [f])) := bt1 n i hi hm (cr_sum D.calm) sem_sum bb_sum nn_sum (.cons h ns .nil)
theorem F_max1 (D : DX X k) (n : NX X N L) (i : Nat) (hi : L[i]? = some (("max" : Str), false)) (hm : X.mg "max" = none) (h : PE X e (tR (gd X) f)) (ns : NoSt e) : PE X (.Call (.Name "max" p) [e] [] pos) (tE (gd X) (xBlt (numsS maxO) [f])) := bt1 n i hi hm (cr_max D.calm) sem_max bb_max nn_max (.cons h ns .nil)
theorem F_min1 (D : DX X k) (n : NX X N L) (i : Nat) (hi : L[i]? = some (("min" : Str), false)) (hm : X.mg "min" = none) (h : PE X e (tR (gd X) f)) (ns : NoSt e) : PE X (.Call (.Name "min" p) [e] [] pos) (tE (gd X) (xBlt (numsS minO) [f])) := bt1 n i hi hm (cr_min D.calm) sem_min bb_min nn_min (.cons h ns .nil)
theorem F_max2 (D : DX X k) (n : NX X N L) (i : Nat) (hi : L[i]? = some (("max" : Str), false)) (hm : X.mg "max" = none) (h : PE X e (tR (gd X) f)) (ns : NoSt e) (h2 : PE X e2 (tR (gd X) g)) (ns2 : NoSt e2) : PE X (.Call (.Name "max" p) [e, e2] [] pos) (tE (gd X) (xBlt max2S [f, g])) := bt1 n i hi hm (call_max2 D.calm) sem_max2 bb_max nn_max (.cons h ns (.cons h2 ns2 .nil))
theorem F_min2 (D : DX X k) (n : NX X N L) (i : Nat) (hi : L[i]? = some (("min" : Str), false)) (hm : X.mg "min" = none) (h : PE X e (tR (gd X) f)) (ns : NoSt e) (h2 : PE X e2 (tR (gd X) g)) (ns2 : NoSt e2) : PE X (.Call (.Name "min" p) [e, e2] [] pos) (tE (gd X) (xBlt min2S [f, g])) := bt1 n i hi hm (call_min2 D.calm) sem_min2 bb_min nn_min (.cons h ns (.cons h2 ns2 .nil))
theorem F_abs (n : NX X N L) (i : Nat) (hi : L[i]? = some (("abs" : Str), false)) (hm : X.mg "abs" = none) (h : PE X e (tR (gd X) f)) (ns : NoSt e) : PE X (.Call (.Name "abs" p) [e] [] pos) (tE (gd X) (xBlt absS [f])) := bt1 n i hi hm call_abs sem_abs bb_abs nn_abs (.cons h ns .nil)
theorem F_sorted (D : DX X k) (n : NX X N L) (i : Nat) (hi : L[i]? = some (("sorted" : Str), false)) (hm : X.mg "sorted" = none) (h : PE X e (tR (gd X) f)) (ns : NoSt e) : PE X (.Call (.Name "sorted" p) [e] [] pos) (tE (gd X) (xBlt sortSetS [f])) := bt1 n i hi hm ((cr_sortP D.h70).or (cr_sortedSet D.calm)) sem_sortSet bb_sorted nn_sorted (.cons h ns .nil)
theorem F_int (n : NX X N L) (i : Nat) (hi : L[i]? = some (("int" : Str), false)) (hm : X.mg "int" = none) (h : PE X e (tR (gd X) f)) (ns : NoSt e) : PE X (.Call (.Name "int" p) [e] [] pos) (tE (gd X) (xBlt intS [f])) := btT n i hi hm call_int1 sem_int bb_int nn_int (.cons h ns .nil)
theorem F_tuple (n : NX X N L) (i : Nat) (hi : L[i]? = some (("tuple" : Str), false)) (hm : X.mg "tuple" = none) (h : PE X e (tR (gd X) f)) (ns : NoSt e) : PE X (.Call (.Name "tuple" p) [e] [] pos) (tE (gd X) (xBlt tupS [f])) := btT n i hi hm call_tuple_of sem_tup bb_tuple nn_tuple (.cons h ns .nil)
theorem F_list (n : NX X N L) (i : Nat) (hi : L[i]? = some (("list" : Str), false)) (hm : X.mg "list" = none) (h : PE X e (tR (gd X) f)) (ns : NoSt e) : PE X (.Call (.Name "list" p) [e] [] pos) (tE (gd X) (xBlt listS [f])) := btT n i hi hm call_list_of sem_list bb_list nn_list (.cons h ns .nil)
/-- a built-in's type as a name -/
theorem tyN {T : String} {y : Str} (n : NX X N L) (j : Nat) (hj : L[j]? = some (y, false)) (hm : X.mg y = none) (hv : bootBuiltins y = some (.type T)) (hn : y ≠ "__name__") : PE X (.Name y p) (tC (.ty T)) := pe_bltn (n.gl j hj) hm hv rfl hn (n.db j hj)
theorem F_isi {T : String} {y : Str} {p2 : Pos} (n : NX X N L) (i j : Nat) (hi : L[i]? = some (("isinstance" : Str), false)) (hm : X.mg "isinstance" = none) (hj : L[j]? = some (y, false)) (hy : X.mg y = none) (hv : bootBuiltins y = some (.type T)) (hn : y ≠ "__name__") (h : PE X e (tR (gd X) f)) (ns : NoSt e) :
    PE X (.Call (.Name "isinstance" p) [e, .Name y p2] [] pos) (tE (gd X) (xIsi T f)) := pE_isi (n.gl i hi) hm h (tyN n j hj hy hv hn) (st1 ns) (st1 True.intro) (stN fun z hz => by rcases List.mem_cons.mp hz with q | q; (rw [q]; exact True.intro); cases q)
end

/-! ### what is walked -/
section
variable {e e2 : Expr} {f g : Ex} {p pos : Pos} {tg : Expr}
theorem I_rng1 (n : NX X N L) (i : Nat) (hi : L[i]? = some (("range" : Str), false)) (hm : X.mg "range" = none) (h : PE X e (tE (gd X) f)) (ns : NoSt e) : L2.PI X tg (.Call (.Name "range" p) [e] [] pos) (tI' (gd X) (iRng [f])) := pI_rng1 (n.gl i hi) hm (pL_cons h pL_nil (st1 ns)) rfl (st1 ns)
theorem I_rng2 (n : NX X N L) (i : Nat) (hi : L[i]? = some (("range" : Str), false)) (hm : X.mg "range" = none) (h : PE X e (tE (gd X) f)) (ns : NoSt e) (h2 : PE X e2 (tE (gd X) g)) (ns2 : NoSt e2) : L2.PI X tg (.Call (.Name "range" p) [e, e2] [] pos) (tI' (gd X) (iRng [f, g])) :=
  pI_rng2 (n.gl i hi) hm (pL_cons h (pL_cons h2 pL_nil (st1 ns2)) (st1 ns)) rfl (by rw [st1 ns, st1 ns2]; rfl) (st1 ns2)
theorem I_enum {elts : List Expr} {kk : Nat} {tpos : Pos} (n : NX X N L) (i : Nat) (hi : L[i]? = some (("enumerate" : Str), false)) (hm : X.mg "enumerate" = none) (h : PE X e (tE (gd X) f)) (ns : NoSt e) : L2.PI X (.Tuple elts kk tpos) (.Call (.Name "enumerate" p) [e] [] pos) (tI' (gd X) (iEnum f)) := pI_enum (n.gl i hi) hm (pL_cons h pL_nil (st1 ns)) (st1 ns)
theorem I_zip {elts : List Expr} {kk : Nat} {tpos : Pos} (n : NX X N L) (i : Nat) (hi : L[i]? = some (("zip" : Str), false)) (hm : X.mg "zip" = none) (h : PE X e (tE (gd X) f)) (ns : NoSt e) (h2 : PE X e2 (tE (gd X) g)) (ns2 : NoSt e2) : L2.PI X (.Tuple elts kk tpos) (.Call (.Name "zip" p) [e, e2] [] pos) (tI' (gd X) (iZipP f g)) :=
  pI_zip (n.gl i hi) hm (pL_cons h (pL_cons h2 pL_nil (st1 ns2)) (st1 ns)) (st1 ns) (stN fun z hz => by rcases List.mem_cons.mp hz with q | q; (rw [q]; exact ns2); cases q)
end

/-! ### targets -/
theorem G_n (D : DX X k) (n : NX X N L) (w : STX X W) (i j : Nat) {x : Str} {pos : Pos} (hi : N[i]? = some x) (hj : W[j]? = some x) : PG X (.Name x pos) (gName i) := pg_name D.nd (by rw [n.n]; exact hi) (w j x hj).1 (w j x hj).2
theorem asM : ∀ {es : List Expr} {env : Env}, (∀ e ∈ es, NoSt e) → (assignEach es env).length = es.length ∧ (assignEach es env).findIdx? (·.1) = none ∧ (assignEach es env).map (·.2) = es.map fun e => assign e env
  | [], _, _ => ⟨rfl, rfl, rfl⟩
  | e :: es, env, h => by
    obtain ⟨h1, h2, h3⟩ := @asM es env fun z hz => h z (List.mem_cons_of_mem _ hz)
    have e1 : assignEach (e :: es) env = (false, assign e env) :: assignEach es env := by
      have := h e List.mem_cons_self
      cases e <;> first | rfl | exact this.elim
    rw [e1]
    exact ⟨by rw [List.length_cons, List.length_cons, h1], by rw [List.findIdx?_cons, h2] <;> rfl, by rw [List.map_cons, List.map_cons, h3]⟩
/-- names, tuples of names -/
inductive Tg (X : Cx) (vs : List Nat) : List Expr → List Tx → Prop
  | nil : Tg X vs [] []
  | cons {e : Expr} {g : Tx} {es : List Expr} {gs : List Tx} : PG X e (tN (gd X) vs g) → NoSt e → Tg X vs es gs → Tg X vs (e :: es) (g :: gs)
theorem Tg.no {vs : List Nat} : ∀ {es : List Expr} {gs : List Tx}, Tg X vs es gs → (∀ e ∈ es, NoSt e) ∧ es.length = gs.length
  | _, _, .nil => ⟨fun e he => (by cases he), rfl⟩
  | _, _, .cons h n r => ⟨fun z hz => by
      rcases List.mem_cons.mp hz with q | q
      · rw [q]; exact n
      · exact r.no.1 z q, by rw [List.length_cons, List.length_cons, r.no.2]⟩
theorem Tg.pgs {vs : List Nat} : ∀ {es : List Expr} {gs : List Tx}, Tg X vs es gs → PGs X es (tNs (gd X) vs gs)
  | _, _, .nil => pN_nil
  | e :: es, _, .cons h n r => pN_cons h r.pgs (by
      rw [(asM (es := e :: es) (Tg.cons h n r).no.1).2.2, (asM r.no.1).2.2]; rfl)
theorem G_v {vs : List Nat} {i : Nat} {e : Expr} (hi : i ∈ vs) (h : PG X e (gName i)) : PG X e (tN (gd X) vs (gV i)) := h.imp fun _ _ _ _ q => tN_v hi q
theorem G_t (D : DX X k) {vs : List Nat} {es : List Expr} {gs : List Tx} {j : Nat} {pos : Pos} (h : Tg X vs es gs) : PG X (.Tuple es j pos) (tN (gd X) vs (gT gs)) := pN_tup D.calm h.pgs (by rw [(asM h.no.1).1]; exact h.no.2) (asM h.no.1).2.1
theorem G_star (D : DX X k) {vs : List Nat} {i j kk : Nat} {x y : Str} {px py ps pos : Pos} (hx : PG X (.Name x px) (gName i)) (hy : PG X (.Name y py) (gName j)) (hi : i ∈ vs) (hj : j ∈ vs) : PG X (.Tuple [.Name x px, .Starred (.Name y py) ps] kk pos) (tN (gd X) vs (gStar i j)) := pN_star D.calm hx hy hi hj rfl rfl rfl

/-! ### comprehensions -/
def NoSetK : Expr → Prop
  | .Set _ _ _ => False
  | _ => True
theorem foldI {e : Expr} {env : Env} (n : NoSetK e) : ∀ x, foldedSetIterable e env x = pure x := fun x => by cases e <;> first | rfl | exact n.elim
theorem F_lc (Q : QX X k N L W sc) (m : MX M X) {elt tg iter : Expr} {ifs : List Expr} {scope : Scope} (own : List (Str × Nat)) (vs : List Nat) (L' : List (Str × Bool)) (W' : List Str) {pos : Pos} {f : Ix} {g : Tx} {t : Bx} {e : Ex} (hv : own.map (·.2) = vs) (hi : L2.PI X tg iter (tI' (gd X) f)) (ok : blkC N sc scope own = true) (h1 : nxB scope L' = true) (h2 : stxB scope W' = true)
    (hb : ∀ Y, QX Y k N L' W' scope → MX M Y → PG Y tg (tN (gd Y) vs g) ∧ PTs Y ifs (tC' (gd Y) t) ∧ PE Y elt (tE (gd Y) e)) (n : NoSetK iter) :
    PE X (.ListComp elt [⟨tg, iter, ifs, 0⟩] scope pos) (tE (gd X) (xLc f vs g t e)) := by
  subst hv
  have b : ∀ Y, BlkX X scope Y → PG Y tg (tN (gd X) (own.map (·.2)) g) ∧ PTs Y ifs (tC' (gd X) t) ∧ PE Y elt (tE (gd X) e) := fun Y hY => by
    have q := Q.blk hY h1 h2
    obtain ⟨s, H, C, cl, fp, rfl⟩ := hY
    exact hb _ q m
  exact pE_lc Q.d.calm Q.d.nd hi (Q.blkOk ok) (fun Y hY => (b Y hY).1) (fun Y hY => (b Y hY).2.1) (fun Y hY => (b Y hY).2.2) (foldI n)
end PI
/-! PI38: forms: statements. -/
namespace PI
open PySem PySem.Spec L2
variable {X : Cx} {N : List Str} {L : List (Str × Bool)} {W : List Str} {sc : Scope} {k : Nat} {M : MD}
/-- no comprehension -/
def NoCp : Expr → Prop
  | .ListComp _ _ _ _ => False
  | .SetComp _ _ _ _ => False
  | .DictComp _ _ _ _ _ => False
  | _ => True
def NoTp : Expr → Prop
  | .Tuple _ _ _ => False
  | _ => True
theorem swN {e : Expr} {t : Option Expr} {l : Nat} {env : Env} (n : NoCp e) : swapsWith e t l env = pure false := by cases e <;> first | rfl | exact n.elim
theorem swS {e t : Expr} {l : Nat} {env : Env} (n : NoCp e) : swapsWithSole [t] e l env = pure false := swN n
theorem ssN {t e : Expr} {env : Env} (n : NoTp e) : swappedStores [t] e env = pure none := by
  cases e <;> first | exact n.elim | (cases t <;> rfl)
theorem ssT {t e : Expr} {env : Env} (n : NoTp t) (n2 : ∀ es p, t ≠ .List es p) : swappedStores [t] e env = pure none := by
  cases t <;> first | exact n.elim | exact absurd rfl (n2 _ _) | rfl
theorem S_set (D : DX X k) (n : NX X N L) (w : STX X W) (i j : Nat) {x : Str} {e : Expr} {f : Ex} {pos pos' : Pos} (hi : N[i]? = some x) (hj : W[j]? = some x) (he : PE X e (tE (gd X) f)) (c : NoCp e) : PS X (.Assign [.Name x pos'] e pos) (tS (gd X) (sSet i f)) :=
  pS_set D.nd (by rw [n.n]; exact hi) (w j x hj).1 he (swN c) (w j x hj).2
/-- of the context it is the scope alone that counts -/
def envS (sc : Scope) : Env := { scope := sc, locals := 0, globals := 0, cells := [], qual := "", func := none, code := .none, frame := none, builtins := 0 }
theorem swE (e : Expr) (t : Option Expr) (l : Nat) (env : Env) : swapsWith e t l env = swapsWith e t l (envS env.scope) := rfl
theorem ssE (ts : List Expr) (v : Expr) (env : Env) : swappedStores ts v env = swappedStores ts v (envS env.scope) := rfl
theorem swEq {e : Expr} {t : Option Expr} {l : Nat} {b : Bool} (es : X.env.scope = sc) (h : swapsWith e t l (envS sc) = pure b) : swapsWith e t l X.env = pure b := by rw [swE, es]; exact h
theorem ssEq {ts : List Expr} {v : Expr} {o : Option (List Str)} (es : X.env.scope = sc) (h : swappedStores ts v (envS sc) = pure o) : swappedStores ts v X.env = pure o := by rw [ssE, es]; exact h
/-- x = [a comprehension]: nothing is swapped -/
theorem S_setCp (D : DX X k) (n : NX X N L) (w : STX X W) (es : X.env.scope = sc) (i j : Nat) {x : Str} {e : Expr} {f : Ex} {pos pos' : Pos} (hi : N[i]? = some x) (hj : W[j]? = some x) (he : PE X e (tE (gd X) f)) (hs : swapsWith e (some (.Name x pos')) pos.line (envS sc) = pure false) :
    PS X (.Assign [.Name x pos'] e pos) (tS (gd X) (sSet i f)) := pS_set D.nd (by rw [n.n]; exact hi) (w j x hj).1 he (swEq es hs) (w j x hj).2
theorem S_setLc (Q : QX X k N L W sc) (m : MX M X) (es : X.env.scope = sc) (i : Nat) {y : Str} {elt tg iter : Expr} {ifs : List Expr} {scope : Scope} (own : List (Str × Nat)) (vs : List Nat) (L' : List (Str × Bool)) (W' : List Str) {py pos spos : Pos} {f : Ix} {g : Tx} {t : Bx} {e : Ex} (hy : N[i]? = some y) (hl : sc.names.lookup y = some .local)
    (hs : swapsWith (.ListComp elt [⟨tg, iter, ifs, 0⟩] scope pos) (some (.Name y py)) spos.line (envS sc) = pure true) (hv : own.map (·.2) = vs) (hi : L2.PI X tg iter (tI' (gd X) f)) (ok : blkC N sc scope own = true) (h1 : nxB scope L' = true) (h2 : stxB scope W' = true)
    (hb : ∀ Y, QX Y k N L' W' scope → MX M Y → PG Y tg (tN (gd Y) vs g) ∧ PTs Y ifs (tC' (gd Y) t) ∧ PE Y elt (tE (gd Y) e)) (n : NoSetK iter) :
    PS X (.Assign [.Name y py] (.ListComp elt [⟨tg, iter, ifs, 0⟩] scope pos) spos) (tS (gd X) (sSet i (xLc f vs g t e))) := by
  subst hv
  have b : ∀ Y, BlkX X scope Y → PG Y tg (tN (gd X) (own.map (·.2)) g) ∧ PTs Y ifs (tC' (gd X) t) ∧ PE Y elt (tE (gd X) e) := fun Y hY => by
    have q := Q.blk hY h1 h2
    obtain ⟨s, H, C, cl, fp, rfl⟩ := hY
    exact hb _ q m
  exact pS_setLc Q.d.calm Q.d.nd (by rw [Q.n.n]; exact hy) (by rw [es]; exact hl) (swEq es hs) hi (Q.blkOk ok) (fun Y hY => (b Y hY).1) (fun Y hY => (b Y hY).2.1) (fun Y hY => (b Y hY).2.2) (foldI n)
/-- (a, b, ..) = e -/
theorem S_asg {tg e : Expr} {f : Ex} {g : Tx} {pos : Pos} (he : PE X e (tE (gd X) f)) (hg : PG X tg (tG (gd X) g)) (c : NoCp e) (t : NoTp e) (n : NoSt tg) : PS X (.Assign [tg] e pos) (tS (gd X) (sAsg f g)) :=
  pS_asg he hg (swS c) (ssN t) (by rw [(asM (es := [tg]) fun z hz => by rcases List.mem_cons.mp hz with q | q; (rw [q]; exact n); cases q).2.2]; rfl)
theorem S_asgN {tg e : Expr} {f : Ex} {g : Tx} {vs : List Nat} {pos : Pos} (he : PE X e (tE (gd X) f)) (hg : PG X tg (tN (gd X) vs g)) (c : NoCp e) (t : NoTp e) (n : NoSt tg) : PS X (.Assign [tg] e pos) (tS (gd X) (sAsg f g)) := S_asg he (pG_ofN hg) c t n
/-- x[i] = e -/
theorem S_put (D : DX X k) {s : Nat} {o i e : Expr} {fi : Rx} {f : Ex} {ps pos : Pos} (ho : PE X o (tVar s)) (hi : PE X i (tR (gd X) fi)) (he : PE X e (tE (gd X) f)) (c : NoCp e) (n : NoSl i) : PS X (.Assign [.Subscript o i ps] e pos) (tS (gd X) (sAsg f (gPut s fi))) :=
  pS_asg he (pG_put D.h10 ho hi fun v => by cases i <;> first | rfl | exact n.elim) (swS c) (by cases e <;> rfl) rfl
/-- names all at once -/
inductive Nm (X : Cx) : List Expr → List Nat → Prop
  | nil : Nm X [] []
  | cons {x : Str} {p : Pos} {es : List Expr} {i : Nat} {is : List Nat} : PG X (.Name x p) (gName i) → i ∉ is → Nm X es is → Nm X (.Name x p :: es) (i :: is)
theorem Nm.no : ∀ {es : List Expr} {is : List Nat}, Nm X es is → (∀ e ∈ es, NoSt e) ∧ es.length = is.length
  | _, _, .nil => ⟨fun e he => (by cases he), rfl⟩
  | _, _, .cons h n r => ⟨fun z hz => by
      rcases List.mem_cons.mp hz with q | q
      · rw [q]; exact True.intro
      · exact r.no.1 z q, by rw [List.length_cons, List.length_cons, r.no.2]⟩
theorem Nm.names : ∀ {es : List Expr} {is : List Nat}, Nm X es is → Names X es is
  | _, _, .nil => .nil
  | _, _, .cons (x := x) (p := p) (es := es) h n r => .cons h (by rw [(asM (es := .Name x p :: es) (Nm.cons (p := p) h n r).no.1).2.2, (asM r.no.1).2.2]; rfl) n r.names
theorem S_parT (D : DX X k) (es : X.env.scope = sc) {vs ts : List Expr} {is : List Nat} {fs : List Ex} {kt k2 : Nat} {pt pt2 pos : Pos} (hn : Nm X ts is) (ha : As X vs fs) (hz : is.length ≤ 1000) (hw : swappedStores [.Tuple ts kt pt] (.Tuple vs k2 pt2) (envS sc) = pure none) :
    PS X (.Assign [.Tuple ts kt pt] (.Tuple vs k2 pt2) pos) (tS (gd X) (sPar is fs)) :=
  pS_parT D.calm hn.names ha.po hz rfl (ssEq es hw) rfl (by rw [(asM hn.no.1).1]; exact hn.no.2) (asM hn.no.1).2.1
theorem S_par2 (D : DX X k) (n : NX X N L) (es : X.env.scope = sc) (i j : Nat) {x y : Str} {a b : Expr} {fs : List Ex} {px py pt pos : Pos} {kt k2 pt2} (hi : N[i]? = some x) (hj : N[j]? = some y) (hij : i ≠ j) (hx : sc.names.lookup x = some .local) (hy : sc.names.lookup y = some .local) (ha : As X [a, b] fs)
    (hw : swappedStores [.Tuple [.Name x px, .Name y py] kt pt] (.Tuple [a, b] k2 pt2) (envS sc) = pure (some [x, y])) : PS X (.Assign [.Tuple [.Name x px, .Name y py] kt pt] (.Tuple [a, b] k2 pt2) pos) (tS (gd X) (sPar [i, j] fs)) :=
  pS_par2 D.calm D.nd (by rw [n.n]; exact hi) (by rw [n.n]; exact hj) hij (by rw [es]; exact hx) (by rw [es]; exact hy) ha.po (ssEq es hw) rfl
theorem S_par3 (D : DX X k) (n : NX X N L) (es : X.env.scope = sc) (i j l : Nat) {x y z : Str} {a b d : Expr} {fs : List Ex} {px py pz pt pos : Pos} {kt k2 pt2} (hi : N[i]? = some x) (hj : N[j]? = some y) (hl : N[l]? = some z) (hij : i ≠ j) (hil : i ≠ l) (hjl : j ≠ l) (hx : sc.names.lookup x = some .local) (hy : sc.names.lookup y = some .local) (hz : sc.names.lookup z = some .local) (ha : As X [a, b, d] fs)
    (hw : swappedStores [.Tuple [.Name x px, .Name y py, .Name z pz] kt pt] (.Tuple [a, b, d] k2 pt2) (envS sc) = pure (some [x, y, z])) : PS X (.Assign [.Tuple [.Name x px, .Name y py, .Name z pz] kt pt] (.Tuple [a, b, d] k2 pt2) pos) (tS (gd X) (sPar [i, j, l] fs)) :=
  pS_par3 D.calm D.nd (by rw [n.n]; exact hi) (by rw [n.n]; exact hj) (by rw [n.n]; exact hl) hij hil hjl (by rw [es]; exact hx) (by rw [es]; exact hy) (by rw [es]; exact hz) ha.po (ssEq es hw) rfl

/-! ### methods for what they do -/
theorem mform {x m : Str} {px : Pos} {e : Expr} {apos cpos : Pos} (n : NoSt e) (hl : (apos.endLine == cpos.line) = true) : MForm X (.Name x px) m e apos cpos := by
  refine ⟨rfl, ?_, hl, st1 n, rfl⟩
  rw [st1 n]; rfl
theorem S_app {s : Nat} {x : Str} {px : Pos} {e : Expr} {f : Ex} {apos cpos pos : Pos} (ho : PE X (.Name x px) (tVar s)) (he : PE X e (tE (gd X) f)) (n : NoSt e) (hl : (apos.endLine == cpos.line) = true) : PS X (.Expr (.Call (.Attribute (.Name x px) "append" apos) [e] [] cpos) pos) (tS (gd X) (sApp s f)) := pS_app ho he (mform n hl) rfl
theorem S_ext {s : Nat} {x : Str} {px : Pos} {e : Expr} {f : Rx} {apos cpos pos : Pos} (ho : PE X (.Name x px) (tVar s)) (he : PE X e (tR (gd X) f)) (n : NoSt e) (hl : (apos.endLine == cpos.line) = true) : PS X (.Expr (.Call (.Attribute (.Name x px) "extend" apos) [e] [] cpos) pos) (tS (gd X) (sExt s f)) := pS_ext ho he (mform n hl) rfl
theorem S_add {s : Nat} {x : Str} {px : Pos} {e : Expr} {f : Rx} {apos cpos pos : Pos} (ho : PE X (.Name x px) (tVar s)) (he : PE X e (tR (gd X) f)) (n : NoSt e) (hl : (apos.endLine == cpos.line) = true) : PS X (.Expr (.Call (.Attribute (.Name x px) "add" apos) [e] [] cpos) pos) (tS (gd X) (sAdd s f)) := pS_add ho he (mform n hl) rfl
theorem S_pop (D : DX X k) (n : NX X N L) (w : STX X W) (i s j : Nat) {x y : Str} {px : Pos} {apos cpos pos pos' : Pos} (hi : N[i]? = some x) (hj : W[j]? = some x) (ho : PE X (.Name y px) (tVar s)) (hl : (apos.endLine == cpos.line) = true) : PS X (.Assign [.Name x pos'] (.Call (.Attribute (.Name y px) "pop" apos) [] [] cpos) pos) (tS (gd X) (sPop i s)) :=
  pS_pop D.nd (by rw [n.n]; exact hi) (w j x hj).1 ho rfl hl rfl (w j x hj).2
theorem S_exp {e : Expr} {f : Ex} {pos : Pos} (he : PE X e (tE (gd X) f)) (c : NoCp e) : PS X (.Expr e pos) (tS (gd X) (sExp f)) := pS_exp he (swN c)
theorem S_aug (D : DX X k) (n : NX X N L) (w : STX X W) (i j : Nat) {x : Str} {e : Expr} {f : Rx} {op : Operator} {g : Int → Int → Int} {pos pos' : Pos} (hi : N[i]? = some x) (hj : W[j]? = some x) (he : PE X e (tR (gd X) f)) (ho : PIp X op (ipI g)) : PS X (.AugAssign (.Name x pos') op e pos) (tS (gd X) (sAug i g f)) :=
  pS_aug D.nd (by rw [n.n]; exact hi) (w j x hj).1 he ho (w j x hj).2

/-! ### loops -/
def sWhileN (m : Nat) (h : Bx) (f : Sx) : Sx := fun sl w => whileGo h f m sl w
theorem S_while (D : DX X k) (m : Nat) {t : Expr} {body : List Stmt} {h : Bx} {f : Sx} {pos : Pos} (ht : PT X t (tC' (gd X) h)) (hb : PSs X body (tS (gd X) f)) : PS X (.While t body [] pos) (tS (gd X) (sWhileN m h f)) := (pS_while D.never ht hb).imp fun _ _ _ q => by
  obtain ⟨c, hs, oa, sl, w, o, sl', w', S, e, q⟩ := q
  exact ⟨c, hs, oa, sl, w, o, sl', w', S, sWhile_eq.mpr ⟨m, e⟩, q⟩
theorem S_whileM (D : DX X k) {t : Expr} {body : List Stmt} {h : Bx} {f : Sx} {pos : Pos} (ht : PT X t (tC' (gd X) h)) (hb : PSs X body (tS (gd X) f)) : PS X (.While t body [] pos) (tS (gd X) (sWhile h f)) := pS_while D.never ht hb
theorem S_for (D : DX X k) {tg iter : Expr} {body : List Stmt} {f : Ix} {g : Tx} {vs : List Nat} {b : Sx} {pos : Pos} (hi : L2.PI X tg iter (tI' (gd X) f)) (hg : PG X tg (tN (gd X) vs g)) (hb : PSs X body (tS (gd X) b)) (n : NoSetK iter) : PS X (.For tg iter body [] pos) (tS (gd X) (sFor f g b)) :=
  pS_for D.never D.calm hi (pG_ofN hg) hb (foldI n)
/-- a def of the module, from its body -/
theorem callee_by {M : MD} {P : Program} {w : World} {K : PySem.W.Frag} {mg : Str → Option Value} {base : Heap} {y x qual : Str} {params : Arguments} {body : List Stmt} {scope : Scope} {f : Addr} {fd : FuncData} {ps : List Str} {m : Nat} {b : Sx} (F : FunD K x qual params body scope [] [] f fd) (S : FnScope N ps scope) (hm : mg y = some (.ref f)) (hb : Binds K fd ps []) (hl : ps.length = m)
    (mm : M P w K mg base) (h1 : nxB scope L = true) (h2 : stxB scope W = true) (h : ∀ X, QX X k N L W scope → X.env.scope = scope → MX M X → PSs X body (tS (gd X) b)) : Callee P w K mg base y (k + 1) m (bodyFn m N.length b) :=
  callee_of F S hm hb hl fun cdv A outer s H E hk hr => h _ (.of (.nox S.nd rfl hk hr) rfl rfl (fun _ => rfl) h1 h2) rfl mm
end PI
/-! PI39: what may be raised; d.get; x *= e; keyword-only calls; a list that becomes a handle. -/
namespace PI
open PySem PySem.Spec L2
variable {X : Cx} {N : List Str} {L : List (Str × Bool)} {W : List Str} {sc : Scope} {k : Nat} {M : MD}
/-! ### d.get(k) -/
def xGet (s : Nat) (f : Rx) : Ex := fun sl w => match sl[s]? with
  | some (some (.d (.dict kvs))) => (match f sl w with
    | some (.d p, w1) => if dOk kvs p = true then some ((.d ((getP kvs p).getD .none), false), w1) else none
    | _ => none)
  | _ => none
theorem valIs_getD {G : Gd} {H : Hp} {O : Addr → Prop} {p : Option P} {u : Option Value} (h : ValIs G H O p u) : ∃ v, Rep G H O (p.getD .none) v ∧ RelV v (u.getD .none) := by
  match p, u, h with
  | none, none, _ => exact ⟨.non, by show Rep _ _ _ _ _; rw [Option.getD_none, Rep], rfl⟩
  | some p, some u, ⟨v, h1, h2⟩ => exact ⟨v, h1, h2⟩
theorem F_get (D : DX X k) {s : Nat} {x : Str} {px apos cpos : Pos} {e : Expr} {f : Rx} (ho : PE X (.Name x px) (tVar s)) (he : PE X e (tR (gd X) f)) (n : NoSt e) (hl : (apos.endLine == cpos.line) = true) : PE X (.Call (.Attribute (.Name x px) "get" apos) [e] [] cpos) (tE (gd X) (xGet s f)) := by
  refine ⟨fun pins st σ H Q I h => ?_⟩
  obtain ⟨c, hs, oa, sl, w, sv, b, w', S, e1, q⟩ := h
  unfold xGet at e1
  split at e1
  · rename_i kvs e2
    split at e1
    · rename_i p w1 e3
      split at e1
      · rename_i ok
        cases e1
        have m : MForm X (.Name x px) "get" e apos cpos := mform n hl
        obtain ⟨a, ks0, vs0, u0, es, hr0, hd0, ha⟩ := slot_dict S e2
        refine wpAny_Call_method m.base m.few m.line PySem.F.plainAttrs_dict PySem.F.slot_dict_get PySem.F.type_dict_get (thn (ho.run pins st σ H (fun y H1 => y = V.ref a ∧ H1 = H) I ⟨_, es, rfl, rfl⟩) fun u s1 ⟨y, H1, I1, rx, q1, q2⟩ => ?_)
        subst q1
        subst q2
        obtain rfl : u = Value.ref a := rx
        obtain ⟨o, ho1, ex⟩ := dic_typeIs I1 hr0 hd0
        refine ⟨⟨o, ho1, ex.1⟩, fun a' ea => by cases ea; exact ⟨o, ho1, ex.2.1⟩, ?_⟩
        have hT : (backTo cpos (starEach [e] X.env)) = (false, eval e X.env) :: backTo cpos (starEach [] X.env) := by rw [st1 n]; rfl
        rw [hT]
        refine Calls.callWith_builtin rfl (Calls.evalArgs_plain (Calls.spliced_cons (thn (he.run pins s1 σ _ (fun z H2 => ∃ z' hs2, z = z' ∧ SRel (gd X) c hs2 oa sl w' σ H2 ∧ Ext hs H1 hs2 H2 ∧ Sub w' w ∧ RepR (gd X) H2 hs2 (Off c hs2 w'.own oa) (.d p) z') I1 ⟨c, hs, oa, sl, w, _, w', S, e3, fun z H2 hs2 S2 x2 sb2 r2 => ⟨z, hs2, rfl, S2, x2, sb2, r2⟩⟩) fun iv s2 ⟨z, H2, I2, ry, z', hs2, ez, S2, x2, sb2, r2⟩ => Calls.spliced_nil ?_)))
        subst ez
        have ok1 : kOk p = true := by unfold dOk at ok; rw [Bool.and_eq_true] at ok; exact ok.1
        have rep : RepR (gd X) H2 hs2 (Off c hs2 w'.own oa) (.d (.dict kvs)) (.ref a) := by
          by_cases hk : s ∈ w'.own
          · obtain ⟨sv, e5, e6, o2⟩ := S2.owns s hk
            rw [e2] at e5; cases e5
            rw [es] at e6; cases e6
            exact .inr ⟨_, rfl, S2.hown s hk, o2⟩
          · obtain ⟨v, e5, r⟩ := S2.slot s _ e2 hk
            rw [es] at e5; cases e5
            exact .inl r
        obtain ⟨a2, ks, vs, u0, ea, hr, hd, rk, rv⟩ := repR_dict rep
        cases ea
        obtain ⟨r, vi, Lk⟩ := dic_look I2 D.h10 hr hd rk rv (repR_key ok1 r2) ry ok
        refine Lk.get1 _ _ fun tk => ?_
        obtain ⟨v, rv1, rv2⟩ := valIs_getD vi
        exact ⟨v, H2, I2.tok tk, rv2, q v H2 hs2 S2 x2 sb2 (resE_rep rv1)⟩
      · cases e1
    · cases e1
  · cases e1
/-! ### x *= e -/
def ipM : TIp := fun x y H Q => ∃ i j, x = .int i ∧ y = .int j ∧ CMul i j ∧ Q (.int (i * j)) H
theorem ip_mul : PIp X .Mult ipM := by
  intro pins s σ H x y v u Q I r1 r2 h
  obtain ⟨i, j, e1, e2, hc, q⟩ := h
  subst e1; subst e2
  obtain ⟨t, rfl⟩ := r1
  obtain ⟨t', rfl⟩ := r2
  exact PyProof.Rows.imul_int ⟨.int _, H, I.tok _, ⟨_, rfl⟩, q⟩ hc.ok
def sAugM (i : Nat) (f : Rx) : Sx := fun sl w => match sl[i]? with
  | some (some (.d (.int a))) => (match f sl w with
    | some (.d (.int b), w1) => if (-(2 ^ 64) < a ∧ a < 2 ^ 64) ∨ (-(2 ^ 64) < b ∧ b < 2 ^ 64) then some (.nx, sl.set i (some (.d (.int (a * b)))), { w1 with own := w1.own.erase i }) else none
    | _ => none)
  | _ => none
theorem S_augM (D : DX X k) (n : NX X N L) (w : STX X W) (i j : Nat) {x : Str} {e : Expr} {f : Rx} {pos pos' : Pos} (hi : N[i]? = some x) (hj : W[j]? = some x) (he : PE X e (tR (gd X) f)) : PS X (.AugAssign (.Name x pos') .Mult e pos) (tS (gd X) (sAugM i f)) := (ps_aug D.nd (by rw [n.n]; exact hi) (w j x hj).1 he ip_mul (w j x hj).2).imp fun D σ H h => by
  obtain ⟨c, hs, oa, sl, w, o, sl', w', S, e, q⟩ := h
  unfold sAugM at e
  split at e
  · rename_i a e1
    split at e
    · rename_i b w1 e2
      split at e
      · rename_i hm
        cases e
        have hk : i ∉ w.own := fun hk => by
          obtain ⟨sv, e3, _, o⟩ := S.owns i hk
          rw [e1] at e3; cases e3
          exact o.elim
        obtain ⟨v, e3, r⟩ := S.slot i _ e1 hk
        refine ⟨v, e3, c, hs, oa, sl, w, _, w1, S, e2, fun u H1 hs1 S1 x1 sb1 r1 => ?_⟩
        refine ⟨a, b, repS_int r, repR_int r1, hm, ?_⟩
        have S2 := S1.set (i := i) (sv := .d (.int (a * b))) (v := .int (a * b)) (by show Rep _ _ _ _ _; rw [Rep])
        exact q _ H1 hs1 oa S2 ((x1.keep sb1).trans (.less off_erase))
      · cases e
    · cases e
  · cases e

/-! ### what may be raised -/
section
variable {E : WX}
theorem X_call {x : Str} {j m : Nat} {F : FnX} {e : Expr} {es : List Expr} {f : Ex} {fs : List Ex} {p pos : Pos} (D : DX X k) (n : NX X N L) (tk : Takes X E) (i : Nat) (hi : L[i]? = some (x, false)) (C : CalleeX X.prog X.w X.K X.mg X.base x j m F) (hj : j ≤ k) (hm : m = (f :: fs).length) (h : As X (e :: es) (f :: fs)) :
    PE X (.Call (.Name x p) (e :: es) [] pos) (tEX (gd X) E (xCallX F (f :: fs))) := by
  subst hm
  exact pEX_call (C.mono hj) tk D.room (n.gl i hi) h.pa (n.db i hi) (st1 (h.no e List.mem_cons_self)) (stN fun z hz => h.no z (List.mem_cons_of_mem _ hz))
def veB : List Value := [.type "ValueError", .type "Exception", .type "BaseException", .type "object"]
/-- an own class below ValueError, its classes without an __init__ -/
structure ExcV (K : PySem.W.Frag) (mg : Str → Option Value) (x : Str) (C : Addr) : Prop where
  g : mg x = some (.ref C)
  q : PySem.W.excIn K C veB "ValueError.__new__" = true
  k : PySem.W.keepIn K (.ref C) = true
  b : PySem.W.subIn K (.ref C) (.type "BaseException") = some true
  t : PySem.W.typeIn K (.ref C) = some (.type "type")
theorem X_raise0 {x m : Str} {j : Nat} {C : Addr} {p p2 pc pos : Pos} (D : DX X k) (n : NX X N L) (tk : Takes X E) (i : Nat) (hi : L[i]? = some (x, false)) (c : ExcV X.K X.mg x C) :
    PS X (.Raise (some (.Call (.Name x p) [.Constant (.str m) j p2] [] pc)) none pos) (tX (gd X) E (sRs x)) := pX_raise0 D.calm tk PySem.F.excBase_ValueError c.q c.g c.k c.b c.t (n.gl i hi) (n.db i hi)
/-- an own class below LookupError that keeps a field -/
structure ExcF (P : Program) (w : World) (K : PySem.W.Frag) (mg : Str → Option Value) (base : Heap) (x f : Str) (C B fI : Addr) (j : Nat) : Prop where
  t : LooC K C B
  no : PySem.W.findIn K (.ref C) f = some none
  i : PySem.W.findIn K (.ref C) "__init__" = some (some (.ref fI))
  ti : PySem.W.typeIn K (.ref fI) = some (.type "function")
  ok : ∃ fd ps, FnOk P w K mg base (fun _ _ _ _ _ _ => False) j fI fd ps (spIni K f) ∧ Binds K fd ps []
  g : mg x = some (.ref C)
theorem X_raiseF {x f : Str} {e : Expr} {g : Ex} {C B fI : Addr} {j : Nat} {p pc pos : Pos} (D : DX X k) (n : NX X N L) (tk : Takes X E) (i : Nat) (hi : L[i]? = some (x, false)) (c : ExcF X.prog X.w X.K X.mg X.base x f C B fI j) (hj : j + 1 ≤ k) (he : PE X e (tE (gd X) g)) (ns : NoSt e) :
    PS X (.Raise (some (.Call (.Name x p) [e] [] pc)) none pos) (tX (gd X) E (sRsF x f g)) := by
  obtain ⟨fd, ps, F1, hb⟩ := c.ok
  exact pX_raiseF D.calm tk c.t c.no c.i c.ti F1 (D.room.mono hj) hb (fun _ _ _ _ _ _ _ z => z.elim) (n.gl i hi) c.g he (n.db i hi) (st1 ns)
end
/-- where nothing is raised -/
def rtFn (F : FnX) : Fn := fun args sto => match F args sto with
  | some (.rt sv b, sto') => some ((sv, b), sto')
  | _ => none
theorem CalleeX.rt {P : Program} {w : World} {K : PySem.W.Frag} {mg : Str → Option Value} {base : Heap} {x : Str} {j n : Nat} {F : FnX} (c : CalleeX P w K mg base x j n F) : Callee P w K mg base x j n (rtFn F) := by
  obtain ⟨f, fd, ps, h1, h2, h3, h4, h5⟩ := c.ex
  refine ⟨f, fd, ps, h1, h2, h3, h4, ⟨fun vs H Q E q => ?_, fun A outer s H args us vs Q E hr e0 hb r q => ?_⟩⟩
  · obtain ⟨_, _, _, _, _, _, _, l, _⟩ := q
    rw [l, h4]
  · have q2 : spX ⟨K, P, w, mg⟩ n F vs H Q (fun _ _ _ => False) := by
      obtain ⟨hs, F0, args, sto, r, b, sto', a1, a2, a3, a4, a5, a6, a7, a8⟩ := q
      unfold rtFn at a7
      split at a7
      · rename_i e
        cases a7
        exact ⟨hs, F0, args, sto, _, _, a1, a2, a3, a4, a5, a6, e, a8⟩
      · cases a7
    refine codeAny_mono (h5.run A outer s H args us vs Q (fun _ _ _ => False) hr e0 hb r q2) fun r s' hq => ?_
    cases r with
    | error e =>
      obtain ⟨_, _, _, _, _, _, _, _, _, _, _, _, z⟩ := (show L2.CX P w outer H s (fun _ _ _ => False) e s' from hq)
      exact z.elim
    | ok fl => cases fl <;> exact hq
/-- a def of the module that may raise, from its body -/
theorem calleeX_by {M : MD} {P : Program} {w : World} {K : PySem.W.Frag} {mg : Str → Option Value} {base : Heap} {y x qual : Str} {params : Arguments} {body : List Stmt} {scope : Scope} {f : Addr} {fd : FuncData} {ps : List Str} {m : Nat} {b : SxX} (F : FunD K x qual params body scope [] [] f fd) (S : FnScope N ps scope) (hm : mg y = some (.ref f)) (hb : Binds K fd ps []) (hl : ps.length = m)
    (mm : M P w K mg base) (h1 : nxB scope L = true) (h2 : stxB scope W = true) (h : ∀ X E, Takes X E → QX X k N L W scope → X.env.scope = scope → MX M X → PSs X body (tX (gd X) E b)) : CalleeX P w K mg base y (k + 1) m (bodyX m N.length b) :=
  calleeX_of F S hm hb hl fun cdv A outer s H E hk hr tk => h _ _ tk (.of ⟨S.nd, rfl, hk, hr, passes_of rfl⟩ rfl rfl (fun _ => rfl) h1 h2) rfl mm
end PI
/-! PI40: keyword-only calls; a list that becomes a handle. -/
namespace PI
open PySem PySem.Spec L2
variable {X : Cx} {N : List Str} {L : List (Str × Bool)} {W : List Str} {sc : Scope} {k : Nat} {M : MD}
/-! ### f(e, .., k = v, ..) -/
structure CalleeK (P : Program) (w : World) (K : PySem.W.Frag) (mg : Str → Option Value) (base : Heap) (x : Str) (k n : Nat) (ks : List Str) (m : Nat) (gS : List SV → List SV → List SV) (F : Fn) : Prop where
  ex : ∃ (f : Addr) (fd : FuncData) (ps : List Str) (g : List Value → List Value → List Value) (gV : List V → List V → List V), mg x = some (.ref f) ∧ PySem.W.keepIn K (.ref f) = true ∧ KBn K fd ps n ks g gV ∧ (∀ vs zs, vs.length = n → zs.length = ks.length → (gV vs zs).length = m) ∧
    (∀ G H hs O ss vs zs ws, RepL G H hs O ss vs → RepL G H hs O zs ws → RepL G H hs O (gS ss zs) (gV vs ws)) ∧ FnOk P w K mg base (fun _ _ _ _ _ _ => False) k f fd ps (spF ⟨K, P, w, mg⟩ m F)
/-- keywords' values -/
inductive Ks (X : Cx) : List Keyword → List Ex → Prop
  | nil : Ks X [] []
  | cons {nm : Str} {e : Expr} {p : Pos} {f : Ex} {kws : List Keyword} {fs : List Ex} : PE X e (tE (gd X) f) → Ks X kws fs → Ks X (⟨some nm, e, p⟩ :: kws) (f :: fs)
theorem pK_tL : ∀ {kws : List Keyword} {fs : List Ex}, Ks X kws fs → PK X kws (tL (gd X) fs)
  | _, _, .nil => ⟨fun pos pins s σ H Q I h => pk_nil.run pos pins s σ H Q I (tL_nil h)⟩
  | _, _, .cons h r => ⟨fun pos pins s σ H Q I q => by
      obtain ⟨R, h1, h2⟩ := tL_cons q
      exact (pk_cons h (pK_tL r)).run pos pins s σ H Q I (tE_mono σ H _ _ (fun v H1 z => h2 v H1 z) h1)⟩
def kNames : List Keyword → List Str
  | [] => []
  | ⟨some n, _, _⟩ :: r => n :: kNames r
  | ⟨none, _, _⟩ :: r => kNames r
theorem ks_facts {env : Env} {pos : Pos} : ∀ {kws : List Keyword} {fs : List Ex}, Ks X kws fs → (backToKw pos (keywordEach kws env)).all (·.1.isSome) = true ∧ (backToKw pos (keywordEach kws env)).filterMap (·.1) = kNames kws ∧ (backToKw pos (keywordEach kws env)).any (·.1.isNone) = false ∧ kws.length = fs.length ∧ (kNames kws).length = fs.length
  | _, _, .nil => ⟨rfl, rfl, rfl, rfl, rfl⟩
  | _, _, .cons (nm := nm) (e := e) (p := p) (kws := kws) (fs := fs) h r => by
    obtain ⟨h1, h2, h3, h4, h5⟩ := ks_facts (env := env) (pos := pos) r
    have e0 : backToKw pos (keywordEach (⟨some nm, e, p⟩ :: kws) env) = (some nm, do let v ← eval e env; standAt pos; pure v) :: backToKw pos (keywordEach kws env) := rfl
    rw [e0]
    refine ⟨by rw [List.all_cons, h1]; rfl, by rw [List.filterMap_cons, h2] <;> rfl, by rw [List.any_cons, h3]; rfl, by rw [List.length_cons, List.length_cons, h4], ?_⟩
    show (nm :: kNames kws).length = _
    rw [List.length_cons, List.length_cons, h5]
def xCallK (gS : List SV → List SV → List SV) (F : Fn) (fs gs : List Ex) : Ex := fun sl w => match evL fs sl w with
  | some (ss, w1) => (match evL gs sl w1 with
    | some (zs, w2) => (match F (gS ss zs) w2.sto with
      | some ((sv, b), sto') => some ((sv, b), { w2 with sto := sto' })
      | none => none)
    | none => none)
  | none => none
theorem tE_callK {G : Gd} {n m : Nat} {gS : List SV → List SV → List SV} {gV : List V → List V → List V} {F : Fn} {fs gs : List Ex} {E : XK} {σ : L2.St} {H : Hp} {Q : VK} (hm : ∀ vs zs, vs.length = n → zs.length = gs.length → (gV vs zs).length = m) (hn : fs.length = n)
    (hg : ∀ G H hs O ss vs zs ws, RepL G H hs O ss vs → RepL G H hs O zs ws → RepL G H hs O (gS ss zs) (gV vs ws)) (h : tE G (xCallK gS F fs gs) σ H Q) : tCallN n gs.length (spF G m F) gV E (tL G fs) (tL G gs) σ H Q := by
  obtain ⟨c, hs, oa, sl, w, sv, b, w', S, e, q⟩ := h
  unfold xCallK at e
  split at e
  · rename_i ss w1 e1
    split at e
    · rename_i zs w2 e2
      split at e
      · rename_i sv2 b2 sto' e3
        cases e
        refine ⟨c, hs, oa, sl, w, ss, w1, S, e1, fun vs H1 hs1 S1 x1 sb1 r1 => ?_⟩
        refine ⟨c, hs1, oa, sl, w1, zs, w2, S1, e2, fun us H2 hs2 S2 x2 sb2 r2 => ?_⟩
        have l1 : vs.length = n := by rw [← r1.length, evL_length e1, hn]
        have l2 : us.length = gs.length := by rw [← r2.length, evL_length e2]
        refine ⟨l1, l2, ?_⟩
        have r3 : RepL G H2 hs2 (Off c hs2 w2.own oa) ss vs := r1.keep (x2.keep sb2) x2.pre
        have r4 := hg _ _ _ _ _ _ _ _ r3 r2
        have hF : ∀ a, (c.F a ∨ ∃ i, i ∈ w2.own ∧ oa i = a) → (∃ u, H2 a = some u) ∧ a ∉ hs2 := fun a z => by
          rcases z with z | ⟨i, hi, rfl⟩
          · exact ⟨S2.off_some (.inl z), (S2.fd a z).2⟩
          · exact ⟨S2.some_own hi, S2.hown i hi⟩
        have kk : Keep (Off c hs2 w2.own oa) H2 (fun a => (c.F a ∨ ∃ i, i ∈ w2.own ∧ oa i = a) ∨ a ∈ hs2) H2 := .less fun a z => by
          rcases z with (z | z) | z
          · exact .inl z
          · exact .inr (.inr z)
          · exact .inr (.inl z)
        refine ⟨hs2, fun a => c.F a ∨ ∃ i, i ∈ w2.own ∧ oa i = a, _, w2.sto, sv, b, sto', hm _ _ l1 l2, S2.sto, S2.tb, S2.hnd, hF, r4.keep kk (List.prefix_refl _), e3, fun v H3 hs3 x3 hk hn3 rr => ?_⟩
        refine q v H3 hs3 (S2.called x3 hk hn3) ((x1.trans x2).trans x3) (sb1.trans sb2) ?_
        have less : ∀ a, Off c hs3 w2.own oa a → (c.F a ∨ ∃ i, i ∈ w2.own ∧ oa i = a) ∨ a ∈ hs3 := fun a z => by
          rcases z with z | z | z
          · exact .inl (.inl z)
          · exact .inr z
          · exact .inl (.inr z)
        unfold ResE
        unfold RetR at rr
        split
        · rename_i hb
          rw [if_pos hb] at rr
          obtain ⟨p, rfl, hp, hh, o⟩ := rr
          refine ⟨p, rfl, (x1.trans x2).none_back S hp (fun z => hh (x3.pre.subset z)), hh, o.keep (.less fun a z => ?_) fun u e _ => e⟩
          rcases z with z | z
          · exact .inl (less a z)
          · exact .inr z
        · rename_i hb
          rw [if_neg hb] at rr
          exact rr.keep (.less less) (List.prefix_refl _)
      · cases e
    · cases e
  · cases e
theorem F_callK {x : Str} {j n m : Nat} {ks : List Str} {gS : List SV → List SV → List SV} {F : Fn} {e : Expr} {es : List Expr} {f : Ex} {fs gs : List Ex} {kws : List Keyword} {p pos : Pos} (D : DX X k) (nx : NX X N L) (i : Nat) (hi : L[i]? = some (x, false)) (C : CalleeK X.prog X.w X.K X.mg X.base x j n ks m gS F) (hj : j ≤ k) (hn : (f :: fs).length = n) (h : As X (e :: es) (f :: fs)) (hk : Ks X kws gs) (hks : kNames kws = ks) :
    PE X (.Call (.Name x p) (e :: es) kws pos) (tE (gd X) (xCallK gS F (f :: fs) gs)) := by
  obtain ⟨fa, fd, ps, g, gV, h1, h2, h3, h4, h5, h6⟩ := C.ex
  obtain ⟨k1, k2, k3, k4, k5⟩ := ks_facts (env := X.env) (pos := pos) hk
  have hl : ks.length = gs.length := by rw [← hks, k5]
  refine (pe_callN (E := fun _ _ _ => False) (h6.mono hj) D.room (nx.gl i hi) h1 h2 h3 (fun _ _ _ _ _ _ _ z => z.elim) h.pa (pK_tL hk) k1 (k2.trans hks) (nx.db i hi) (st1 (h.no e List.mem_cons_self)) (by rw [k3, Bool.or_false]; exact stN h.no)).imp fun σ H Q q => ?_
  rw [hl]
  exact tE_callK (fun vs zs a b => h4 vs zs a (b.trans hl.symm)) hn h5 q

/-! ### a new list of ints that calls may change: a handle -/
def sSetH (i : Nat) (f : Ex) : Sx := fun sl w => match f sl w with
  | some ((.d (.list ps), true), w1) => (match intsP ps with
    | some ns => if i < sl.length then some (.nx, sl.set i (some (.h w1.sto.length)), { own := w1.own.erase i, sto := w1.sto ++ [ns] }) else none
    | none => none)
  | _ => none
section
variable {G : Gd} {c : Cn} {hs hs' : List Addr} {oa : Nat → Addr} {sl : Slots} {w w' : PI.W} {σ : L2.St} {H H' : Hp}
/-- a new list becomes a handle -/
theorem SRel.hand {p : Addr} {ns : List Int} (S : SRel G c hs oa sl w σ H) (x : Ext hs H hs' H') (S' : SRel G c hs' oa sl w' σ H') (sb : Sub w' w) (hp : H p = none) (hh : p ∉ hs') (hu : H' p = some (.lst (ns.map V.int))) : SRel G c (hs' ++ [p]) oa sl { w' with sto := w'.sto ++ [ns] } σ H' := by
  obtain ⟨k1, k2⟩ := S.apart x S' sb hp
  have hlen : hs'.length = w'.sto.length := S'.sto.1
  have he : c.He p = none := by
    cases q : c.He p with
    | none => rfl
    | some u =>
      by_cases hm : p ∈ hs
      · exact absurd (x.pre.subset hm) hh
      · obtain ⟨u', e'⟩ := S.any hm q
        rw [e'] at hp; cases hp
  have hF : ¬ c.F p := fun z => by
    obtain ⟨⟨u, q⟩, _⟩ := S.fd _ z
    rw [he] at q; cases q
  have less : ∀ a, Off c (hs' ++ [p]) w'.own oa a → Off c hs' w'.own oa a ∨ a = p := fun a z => by
    rcases z with z | z | z
    · exact .inl (.inl z)
    · rcases List.mem_append.mp z with z | z
      · exact .inl (.inr (.inl z))
      · exact .inr (List.mem_singleton.mp z)
    · exact .inl (.inr (.inr z))
  refine ⟨S'.len, fun i sv e n => ?_, fun i hi => ?_, S'.inj, S'.new, S'.nd, ⟨by rw [List.length_append, List.length_append, hlen]; rfl, fun n ms e => ?_⟩, ?_, fun i hi => ?_, fun a ha => ?_, fun a u n e t => S'.ext a u (fun z => n (List.mem_append_left _ z)) e t, fun a ha => ?_, ?_, S'.tbl, S'.tb⟩
  · obtain ⟨v, e1, r⟩ := k1 i sv e n
    exact ⟨v, e1, r.keep (.less less) (List.prefix_append _ _)⟩
  · obtain ⟨sv, e1, e2, _, o⟩ := k2 i hi
    exact ⟨sv, e1, e2, o.keep (.less less) fun u e _ => e⟩
  · by_cases hn : n < w'.sto.length
    · rw [List.getElem?_append_left hn] at e
      obtain ⟨a, e1, e2⟩ := S'.sto.2 n ms e
      exact ⟨a, by rw [List.getElem?_append_left (by omega)]; exact e1, e2⟩
    · rw [List.getElem?_append_right (by omega)] at e
      by_cases h0 : n - w'.sto.length = 0
      · rw [h0] at e
        cases e
        refine ⟨p, ?_, hu⟩
        rw [List.getElem?_append_right (by omega), show n - hs'.length = 0 by omega]
        rfl
      · rw [List.getElem?_eq_none (by simp; omega)] at e
        cases e
  · exact List.nodup_append.mpr ⟨S'.hnd, by simp, fun a ha b hb e => by rw [List.mem_singleton.mp hb] at e; rw [e] at ha; exact hh ha⟩
  · intro z
    rcases List.mem_append.mp z with z | z
    · exact S'.hown i hi z
    · obtain ⟨_, _, _, q, _⟩ := k2 i hi
      exact q (List.mem_singleton.mp z)
  · exact ⟨(S'.fd a ha).1, fun z => by
      rcases List.mem_append.mp z with z | z
      · exact (S'.fd a ha).2 z
      · rw [List.mem_singleton.mp z] at ha; exact hF ha⟩
  · rcases List.mem_append.mp ha with z | z
    · exact S'.h0 a z
    · exact .inr (by rw [List.mem_singleton.mp z]; exact he)
  · exact S'.hpre.trans (List.prefix_append _ _)
end
theorem tS_setH {G : Gd} {i : Nat} {f : Ex} {D : Ends} {σ : L2.St} {H : Hp} (h : tS G (sSetH i f) D σ H) : tAsg (tE G f) (gName i) D σ H := by
  obtain ⟨c, hs, oa, sl, w, o, sl', w', S, e, q⟩ := h
  unfold sSetH at e
  split at e
  · rename_i ps w1 e1
    split at e
    · rename_i ns e2
      split at e
      · rename_i hi
        cases e
        refine ⟨c, hs, oa, sl, w, _, true, w1, S, e1, fun v H1 hs1 S1 x1 sb1 r1 => ?_⟩
        unfold ResE at r1
        rw [if_pos rfl] at r1
        obtain ⟨p, rfl, hp, hh, xs, hu, rx⟩ := r1
        rw [intsP_eq e2] at rx
        cases reps_intsP rx
        have S2 := S.hand x1 S1 sb1 hp hh hu
        have hl : hs1.length = w1.sto.length := S1.sto.1
        have S3 := S2.set (i := i) (sv := .h w1.sto.length) (v := .ref p) (show ∃ a, _ from ⟨p, rfl, by rw [List.getElem?_append_right (by omega), hl, Nat.sub_self]; rfl⟩)
        refine q _ H1 (hs1 ++ [p]) oa S3 ?_
        have kk : Keep (Off c hs w.own oa) H (Off c hs1 w1.own oa) H1 := x1.keep sb1
        refine ⟨kk.same, kk.tup, kk.frz, fun a u n e z => ?_, kk.tbl, kk.tb⟩
        rcases z with z | z | ⟨j, hj, z⟩
        · exact n (.inl z)
        · rcases List.mem_append.mp z with z | z
          · exact kk.out a u n e (.inr (.inl z))
          · rw [List.mem_singleton.mp z, hp] at e; cases e
        · exact kk.out a u n e (.inr (.inr ⟨j, List.mem_of_mem_erase hj, z⟩))
      · cases e
    · cases e
  · cases e
theorem S_setH (D : DX X k) (n : NX X N L) (w : STX X W) (i j : Nat) {x : Str} {e : Expr} {f : Ex} {pos pos' : Pos} (hi : N[i]? = some x) (hj : W[j]? = some x) (he : PE X e (tE (gd X) f)) (c : NoCp e) : PS X (.Assign [.Name x pos'] e pos) (tS (gd X) (sSetH i f)) :=
  (ps_set D.nd (by rw [n.n]; exact hi) (w j x hj).1 he (swN c) (w j x hj).2).imp fun D σ H h => tS_setH h
/-- a def of the module by its body, whatever its defaults -/
theorem fnOk_of {M : MD} {P : Program} {w : World} {K : PySem.W.Frag} {mg : Str → Option Value} {base : Heap} {x qual : Str} {params : Arguments} {body : List Stmt} {scope : Scope} {dvs : List V} {kws : List (Str × V)} {f : Addr} {fd : FuncData} {ps : List Str} {m : Nat} {b : Sx} (F : FunD K x qual params body scope dvs kws f fd) (S : FnScope N ps scope) (hl : ps.length = m)
    (mm : M P w K mg base) (h1 : nxB scope L = true) (h2 : stxB scope W = true) (h : ∀ X, QX X k N L W scope → X.env.scope = scope → MX M X → PSs X body (tS (gd X) b)) : FnOk P w K mg base (fun _ _ _ _ _ _ => False) (k + 1) f fd ps (spF ⟨K, P, w, mg⟩ m (bodyFn m N.length b)) := by
  obtain ⟨oc, od, dV, kV, doc, pm, an, cdv, ct, osl, e, lk, hcd, _, _⟩ := F.ex
  subst e
  exact fn_of lk hcd S (fun vs H Q E q => by obtain ⟨_, _, _, _, _, _, _, q, _⟩ := q; rw [q, hl]) fun A outer s H vs Q E hr q => ⟨_, (h _ (.of (.nox S.nd rfl (kds_of_code hcd) hr) rfl rfl (fun _ => rfl) h1 h2) rfl mm).nox, body_ok q⟩
/-- a def with one keyword-only default d that lacks: f(x.., k = v) -/
theorem repL_app {G : Gd} {H : Hp} {hs : List Addr} {O : Addr → Prop} : ∀ {ss ts : List SV} {vs us : List V}, RepL G H hs O ss vs → RepL G H hs O ts us → RepL G H hs O (ss ++ ts) (vs ++ us)
  | [], _, _, _, h, h2 => by rw [show _ = [] from h]; exact h2
  | s :: ss, _, _, _, ⟨v, r, e, h1, h3⟩, h2 => by rw [e]; exact ⟨v, _, rfl, h1, repL_app h3 h2⟩
theorem repL_int {G : Gd} {H : Hp} {hs : List Addr} {O : Addr → Prop} {i : Int} : RepL G H hs O [.d (.int i)] [.int i] := ⟨_, _, rfl, by show Rep _ _ _ _ _; rw [Rep], rfl⟩
end PI
/-! PI41: defs that call repr: run where no repr is under way; the law's end there. -/
namespace PI
open PySem PySem.Spec L2 PyProof.Rows LamX
/-- as FnOk, where no repr is under way -/
structure FnOkG (P : Program) (w : World) (K : PySem.W.Frag) (mg : Str → Option Value) (base : Heap) (k : Nat) (f : Addr) (fd : FuncData) (ps : List Str) (sp : Sp) : Prop where
  len : ∀ vs H Q E, sp vs H Q E → vs.length = ps.length
  run : ∀ (A : Around) (outer : List Env) (s : Shared) (H : Hp) (args : Args) (us : List Value) (vs : List V) (Q : VK) (E : XK), A.guards = some [] → Room k A → Env0 P w K mg base A outer s H → BindsTo s fd args (ps.zip us) → Vals vs us → sp vs H Q E →
    codeAny (model P w) A (.call (.ref f) args) (CR (fun _ _ _ _ _ _ => False) outer P w H s Q E) s
theorem FnOkG.mono {P : Program} {w : World} {K : PySem.W.Frag} {mg : Str → Option Value} {base : Heap} {j k : Nat} {f : Addr} {fd : FuncData} {ps : List Str} {sp : Sp} (F : FnOkG P w K mg base j f fd ps sp) (h : j ≤ k) : FnOkG P w K mg base k f fd ps sp :=
  ⟨F.len, fun A outer s H args us vs Q E g hr => F.run A outer s H args us vs Q E g (hr.mono h)⟩
/-- a def by its body, there -/
theorem fnG_of {P : Program} {w : World} {K : PySem.W.Frag} {mg : Str → Option Value} {base : Heap} {k : Nat} {f : Addr} {name qual : Str} {params : Arguments} {body : List Stmt} {scope : Scope} {dV kV doc pm cdv ct oc : Value} {an od : Option Addr}
    {osl : Array (Option Value)} {N ps : List Str} {sp : Sp} (lk : K.lookup f = some ⟨oc, od, .func (PySem.W.fnOf name qual params body scope dV kV doc pm an cdv ct), osl⟩) (cd : PySem.W.codeIn K cdv qual = true) (S : FnScope N ps scope) (len : ∀ vs H Q E, sp vs H Q E → vs.length = ps.length)
    (hb : ∀ (A : Around) (outer : List Env) (s : Shared) (H : Hp) (vs : List V) (Q : VK) (E : XK), (A.deeper (envOfC qual scope s.heap.objs.size f cdv)).guards = some [] → Room k (A.deeper (envOfC qual scope s.heap.objs.size f cdv)) → sp vs H Q E →
      ∃ t, PSs (cxOf (fun _ _ _ _ _ _ => False) P w K mg base N qual scope f cdv A outer s H E).nox body t ∧ t { nx := fun _ H' => Q .non H', rt := Q } (L2.start N vs) H) :
    FnOkG P w K mg base (k + 1) f (PySem.W.fnOf name qual params body scope dV kV doc pm an cdv ct) ps sp := by
  refine ⟨len, fun A outer s H args us vs Q E g hr e0 bt rv q => ?_⟩
  have old : ∀ b o, base.get? b = some o → s.heap.get? b = some o := fun b o e => (e0.bs b o e).1
  have inK : K.In s.heap := e0.mod.kin.keeps old
  have kinds : ∀ y ∈ ps.zip us, scope.names.lookup y.1 = some .local ∨ (scope.names.lookup y.1 = some .cell ∧ ((cellsFrom (s.heap.objs.size + 1) scope.names []).lookup y.1).isSome = true) := fun y hy =>
    (S.par y.1 (List.of_mem_zip (show (y.1, y.2) ∈ ps.zip us from hy)).1).imp id fun z => ⟨z, PySem.W.cellsFrom_some _ _ _ (.inl z)⟩
  refine codeAny_call_function hr.depth (inK _ _ lk) rfl S.co S.gen rfl (PySem.W.codeRec_of inK cd) (bt _ _ _ _ ?_)
  refine wpAny_newFunctionEnv_cells S.kind kinds fun env he s1 x => ?_
  subst he
  refine ⟨(e0.mod.nolimit.keeps old).keeps x.toInCall.keep, codeAny_func ?_⟩
  obtain ⟨t, ht, hq⟩ := hb A outer s H vs Q E g (hr.deeper _) q
  refine wpAny_mono (ht.nox.run [] s1 (L2.start N vs) H _ (inv_start S hr.hd e0 (len _ _ _ _ q) rv x) hq) (fun fl s' z => ?_) fun e s' z => z
  match fl, z with
  | .ret u, ⟨v, σ', H', J, r, z⟩ => exact ⟨v, H', J.os, J.bare, J.base, J.hok, r, z⟩
  | .next, ⟨σ', H', J, z⟩ => exact ⟨.non, H', J.os, J.bare, J.base, J.hok, rfl, z⟩
  | .brk, ⟨_, _, _, z⟩ => exact False.elim z
  | .cont, ⟨_, _, _, z⟩ => exact False.elim z
/-- a def of the module that does F, there -/
structure CalleeG (P : Program) (w : World) (K : PySem.W.Frag) (mg : Str → Option Value) (base : Heap) (x : Str) (k n : Nat) (F : Fn) : Prop where
  ex : ∃ (f : Addr) (fd : FuncData) (ps : List Str), mg x = some (.ref f) ∧ PySem.W.keepIn K (.ref f) = true ∧ Binds K fd ps [] ∧ ps.length = n ∧ FnOkG P w K mg base k f fd ps (spF ⟨K, P, w, mg⟩ n F)
section
variable {X : Cx} {N : List Str} {L : List (Str × Bool)} {W : List Str} {sc : Scope} {k : Nat} {M : MD}
theorem F_callG {x : Str} {j m : Nat} {F : Fn} {e : Expr} {es : List Expr} {f : Ex} {fs : List Ex} {p pos : Pos} (D : DX X k) (hG : X.A.guards = some []) (n : NX X N L) (i : Nat) (hi : L[i]? = some (x, false)) (C : CalleeG X.prog X.w X.K X.mg X.base x j m F) (hj : j ≤ k) (hm : m = (f :: fs).length) (h : As X (e :: es) (f :: fs)) :
    PE X (.Call (.Name x p) (e :: es) [] pos) (tE (gd X) (xCall F (f :: fs))) := by
  subst hm
  obtain ⟨fa, fd, ps, hm, hk, hb, hl, hF⟩ := C.ex
  refine ⟨fun pins s σ H Q I q => ?_⟩
  have q2 := tE_call (E := fun _ _ _ => False) q
  refine wpAny_Call_Name_kw (ld_glob I (n.gl i hi) hm ?_ (n.db i hi))
  refine PySem.W.callWith_K (h₀ := X.base) I.ok.mod.kin hk (thn (h.pa.run pos pins s σ H _ I q2) fun us s1 ⟨vs, H1, I1, r, q3⟩ => ⟨I1.kIn, ?_⟩) (st1 (h.no e List.mem_cons_self)) (stN fun z hz => h.no z (List.mem_cons_of_mem _ hz))
  have len : (us ++ []).length = ps.length := by rw [List.append_nil, ← r.length]; exact hF.len _ _ _ _ q3
  have bt := hb s1 us I1.kIn len
  rw [List.append_nil] at bt
  refine wpAny_call (codeAny_mono ((hF.mono hj).run X.A X.stack s1 H1 ⟨us, []⟩ us vs Q _ hG D.room I1.env0 bt r q3) fun r s' z => ?_)
  match r, z with
  | .error e, z => exact False.elim z
  | .ok (.ret u), z => exact I1.after z
  | .ok .next, z => exact False.elim z
  | .ok .brk, z => exact False.elim z
  | .ok .cont, z => exact False.elim z
theorem calleeG_by {M : MD} {P : Program} {w : World} {K : PySem.W.Frag} {mg : Str → Option Value} {base : Heap} {y x qual : Str} {params : Arguments} {body : List Stmt} {scope : Scope} {f : Addr} {fd : FuncData} {ps : List Str} {m : Nat} {b : Sx} (F : FunD K x qual params body scope [] [] f fd) (S : FnScope N ps scope) (hm : mg y = some (.ref f)) (hb : Binds K fd ps []) (hl : ps.length = m)
    (mm : M P w K mg base) (h1 : nxB scope L = true) (h2 : stxB scope W = true) (h : ∀ X, X.A.guards = some [] → QX X k N L W scope → X.env.scope = scope → X.env.qual = qual → (∃ cdv, X.env.code = cdv ∧ ∃ f2 fd2, K.lookup f2 = some fd2) → MX M X → PSs X body (tS (gd X) b)) : True := trivial
end
end PI
/-! PI42: lambdas handed on: their contexts, clauses. -/
namespace PI
open PySem PySem.Spec L2 PyProof.Rows LamX
/-- a lambda's context -/
structure LQ (Y : Cx) (k : Nat) (N : List Str) (L : List (Str × Bool)) : Prop where
  n : NX Y N L
  r : Room k Y.A
/-- where lambdas are made -/
structure LamC (X : Cx) : Prop where
  ex : ∃ cc Pt, TabB X.base X.mg cc Pt ∧ X.env.code = .ref cc ∧ (Pt, X.env.qual ++ "<lambda>") ∈ tabT ∧ ∀ p ∈ tabT, p.1 = Pt → p.2 = X.env.qual ++ "<lambda>"
section
variable {X : Cx} {N : List Str} {L : List (Str × Bool)} {k : Nat} {E : WX}
theorem X_callR {x : Str} {j m : Nat} {F : FnX} {e : Expr} {es : List Expr} {f : Ex} {fs : List Ex} {p pos : Pos} (hr : Room k X.A) (n : NX X N L) (tk : Takes X E) (i : Nat) (hi : L[i]? = some (x, false)) (C : CalleeX X.prog X.w X.K X.mg X.base x j m F) (hj : j ≤ k) (hm : m = (f :: fs).length) (h : As X (e :: es) (f :: fs)) :
    PE X (.Call (.Name x p) (e :: es) [] pos) (tEX (gd X) E (xCallX F (f :: fs))) := by
  subst hm
  exact pEX_call (C.mono hj) tk hr (n.gl i hi) h.pa (n.db i hi) (st1 (h.no e List.mem_cons_self)) (stN fun z hz => h.no z (List.mem_cons_of_mem _ hz))
/-- a suite that is not come to -/
def tsNo : Addr → Value → Option Addr → TS := fun _ _ _ _ _ _ => False
theorem su_no {a : Addr} {pn : List (Addr × Obj)} {st : List Stmt} {cls : Value} {d : Option Addr} : PSs (X.suite a pn) st (tsNo a cls d) := ⟨fun _ _ _ _ _ _ h => h.elim⟩
theorem md_of {M : MD} {Y : Cx} (h : gd Y = gd X) (hb : Y.base = X.base) (m : MX M X) : MX M Y := by
  have e : (Gd.mk Y.K Y.prog Y.w Y.mg) = Gd.mk X.K X.prog X.w X.mg := h
  injection e with e1 e2 e3 e4
  show M Y.prog Y.w Y.K Y.mg Y.base
  rw [e1, e2, e3, e4, hb]
  exact m
end
end PI
set_option maxHeartbeats 2000000
/-! PI43: the law's end, run where no repr is under way; the law's value is F's. -/
namespace PI
open PySem PySem.Spec L2 PyProof.Rows LamX
section
variable {P : Program} {w : World} {K : PySem.W.Frag} {mg mb : Str → Option Value} {k : Nat} {fa a : Addr} {cs : List (Addr × Addr)} {fd : FuncData} {x : Str} {Fl : Fn} {s : Shared} {vs : List Value} {ns : List Int}
/-- what is tracked at the law's start: the tables, the script (where the written part does not hold it) -/
def H0 (K : PySem.W.Frag) (cs : List (Addr × Addr)) (a : Addr) (vs : List Value) (ns : List Int) : Hp := fun b =>
  if b ∈ cs.map (·.2) then some (.tbl #[]) else if b = a ∧ K.lookup a = none then some (.frz { cls := .type "list", data := .seq vs.toArray } (.lst (ns.map V.int))) else none
theorem H0_cases {b : Addr} {u : HO} (e : H0 K cs a vs ns b = some u) : (b ∈ cs.map (·.2) ∧ u = .tbl #[]) ∨ (b ∉ cs.map (·.2) ∧ b = a ∧ K.lookup a = none ∧ u = .frz { cls := .type "list", data := .seq vs.toArray } (.lst (ns.map V.int))) := by
  unfold H0 at e
  split at e
  · rename_i h; cases e; exact .inl ⟨h, rfl⟩
  · rename_i h
    split at e
    · rename_i h2; cases e; exact .inr ⟨h, h2.1, h2.2, rfl⟩
    · cases e
theorem H0_tab {b : Addr} (h : b ∈ cs.map (·.2)) : H0 K cs a vs ns b = some (.tbl #[]) := if_pos h
theorem end_run (KX : K.In s.heap) (hns : s.heap.Ns mainGlobals mg) (hb : s.heap.Ns builtinsNs mb) (hbb : ∀ x : Str, x ≠ "__name__" → mb x = bootBuiltins x) (hlim : s.heap.NoLimit) (hg : s.gens = #[])
    (hT : ∀ p ∈ cs, s.heap.get? p.2 = some { cls := .none, data := .fields #[] }) (nT : ∀ p ∈ cs, K.lookup p.2 = none) (C : ∀ p ∈ cs, PySem.W.CodeHd s.heap p.1 p.2)
    (hbm : ∃ (bm : Addr) (ob : Obj), mg "__builtins__" = some (.ref bm) ∧ bm ≠ builtinsNs ∧ s.heap.get? bm = some ob ∧ ob.cls = .type "module" ∧ ob.dict = some builtinsNs ∧ ob.data = .plain)
    (ha : s.heap.get? a = some { cls := .type "list", data := .seq vs.toArray }) (hi : IntsAre vs ns) (hl : ns.length ≤ sizeLine) (hr : Room k callerA)
    (F : ∀ base : Heap, K.In base → base.Ns mainGlobals mg → (∀ p ∈ cs, TabB base mg p.1 p.2) → FnOkG P w K mg base k fa fd [x] (spF ⟨K, P, w, mg⟩ 1 Fl)) (bind : ∀ (s : Shared) (u : Value), BindsTo s fd ⟨[u], []⟩ [(x, u)])
    (tabs : ∀ p ∈ tabT, p.1 ∈ cs.map (·.2)) (val : ∃ sto', Fl [.z ns] [] = some ((.d (.bool true), false), sto')) :
    codeAny (model P w) callerA (.call (.ref fa) ⟨[.ref a], []⟩) (fun r s' => r = .ok (.ret (.bool true)) ∧ OldK s.heap s'.heap ∧ s'.os = s.os ∧ AllBare s'.gens) s := by
  have rv := vals_ints hi
  obtain ⟨H, eH⟩ : ∃ H, H = H0 K cs a vs ns := ⟨_, rfl⟩
  have tab : ∀ b, b ∈ cs.map (·.2) → s.heap.get? b = some { cls := .none, data := .fields #[] } := fun b hb => by
    obtain ⟨p, hp, rfl⟩ := List.mem_map.mp hb
    exact hT p hp
  have ntab : a ∉ cs.map (·.2) := fun z => by
    have q := tab a z
    rw [ha] at q
    exact nomatch (congrArg Obj.data (Option.some.inj q) : Data.seq vs.toArray _ = Data.fields #[])
  -- what is tracked, as it lies
  have lies : ∀ {b : Addr} {o : Obj}, s.heap.get? b = some o → H b ≠ none → (∃ l n, o.data = .seq l n ∧ K.lookup b = none) ∨ o = { cls := .none, data := .fields #[] } := fun {b o} e n => by
    cases q : H b with
    | none => exact absurd q n
    | some u =>
      rw [eH] at q
      rcases H0_cases q with ⟨hb, _⟩ | ⟨_, rfl, hk, _⟩
      · rw [tab b hb] at e; cases e; exact .inr rfl
      · rw [ha] at e; cases e; exact .inl ⟨_, _, rfl, hk⟩
  have free : ∀ {b : Addr} {o : Obj}, s.heap.get? b = some o → (∀ l n, o.data ≠ .seq l n) → o.data ≠ .fields #[] → H b = none := fun {b o} e h1 h2 => by
    apply Decidable.byContradiction
    intro n
    rcases lies e n with ⟨l, m, z, _⟩ | rfl
    · exact h1 _ _ z
    · exact h2 rfl
  have see : ∀ {b : Addr} {o : Obj}, s.heap.get? b = some o → H b = none → (hidT s.heap H).get? b = some o := fun e n => hidT_get e n
  have names : ∀ {b : Addr} {m : Str → Option Value}, s.heap.Ns b m → (hidT s.heap H).Ns b m := fun {b m} ⟨o, es, ep, e, d, r⟩ => ⟨o, es, ep, see e (free e (fun _ _ z => by rw [d] at z; cases z) fun z => by rw [d] at z; cases z), d, r⟩
  have inB : K.In (hidT s.heap H) := fun b o e => see (KX b o e) (by
    apply Decidable.byContradiction
    intro n
    cases q : H b with
    | none => exact n q
    | some u =>
      rw [eH] at q
      rcases H0_cases q with ⟨hb, _⟩ | ⟨_, rfl, hk, _⟩
      · obtain ⟨p, hp, rfl⟩ := List.mem_map.mp hb
        rw [nT p hp] at e; cases e
      · rw [hk] at e; cases e)
  have md : L2.Mod K mg (hidT s.heap H) := ⟨inB, names hns, ⟨mb, names hb, hbb⟩, let ⟨mc, h1, h2⟩ := hlim; ⟨mc, names h1, h2⟩⟩
  have tb : ∀ p ∈ cs, TabB (hidT s.heap H) mg p.1 p.2 := fun p hp => by
    have tp := hT p hp
    obtain ⟨gO, gE, gP, eg, dg, rg⟩ := hns
    refine ⟨?_, ?_, fun z => by rw [z, tp] at eg; cases eg; cases dg⟩
    · obtain ⟨o, us, file, tf, flags, tg, inF, text, tt, e1, r1, r2, r3, r4, r5, r6, r7, r8, ne⟩ := C p hp
      exact ⟨o, us, file, tf, flags, tg, inF, text, tt, see e1 (free e1 (fun _ _ z => by rw [r2] at z; cases z) fun z => by rw [r2] at z; cases z; simp at r3), r1, r2, r3, r4, r5, r6, r7, r8, ne⟩
    · obtain ⟨bm, ob, b1, b2, b3, b4, b5, b6⟩ := hbm
      exact ⟨bm, ob, b1, b2, fun q => (by rw [q, eg] at b3; cases b3; rw [dg] at b6; cases b6), fun q => (by rw [q, tp] at b3; cases b3; cases b6), see b3 (free b3 (fun _ _ z => by rw [b6] at z; cases z) fun z => by rw [b6] at z; cases z), b4, b5, b6⟩
  have ok : HOk P w H s.heap := fun b u q => by
    rw [eH] at q
    rcases H0_cases q with ⟨hb, rfl⟩ | ⟨_, rfl, _, rfl⟩
    · exact tab b hb
    · exact ⟨ha, by rw [List.length_map]; exact hl, vs, _, rv, ha⟩
  have e0 : Env0 P w K mg (hidT s.heap H) callerA [] s H := ⟨rfl, md, fun b o e => of_hidT e, Nat.le_of_eq (hidT_size _ _), trivial, fun b hb => absurd (show b ∈ ([] : List Addr) from hb) (by simp), ok, .of_eq hg⟩
  have script : SqZ K H a (ns.map V.int) := by
    cases q : K.lookup a with
    | some o =>
      have e := KX a o q
      rw [ha] at e; cases e
      exact .inr ⟨_, vs.toArray, _, q, rfl, rfl, rfl, by rw [List.size_toArray, hi.length]; exact hl, by simpa using rv⟩
    | none => exact .inl ⟨_, by rw [eH]; unfold H0; rw [if_neg ntab, if_pos ⟨rfl, q⟩]⟩
  have tT : Tb H := fun p hp => ⟨#[], by rw [eH]; exact H0_tab (tabs p hp), True.intro, fun pos cv hc => nomatch hc⟩
  obtain ⟨sto', ev⟩ := val
  have sp : spF ⟨K, P, w, mg⟩ 1 Fl [.ref a] H (fun v _ => v = .bl true) fun _ _ _ => False :=
    ⟨[], fun _ => False, [.z ns], [], _, _, sto', rfl, ⟨rfl, fun n ms e => by simp at e⟩, tT, List.nodup_nil, fun _ z => z.elim, ⟨_, [], rfl, ⟨a, rfl, script⟩, rfl⟩, ev, fun v H' hs' _ _ _ r => (by
      unfold RetR at r
      rw [if_neg Bool.false_ne_true] at r
      have r' : Rep ⟨K, P, w, mg⟩ H' (fun a => False ∨ a ∈ hs') (.bool true) v := r
      rw [Rep] at r'; exact r')⟩
  refine codeAny_mono ((F _ inB (names hns) tb).run callerA [] s H ⟨[.ref a], []⟩ [.ref a] [.ref a] _ _ rfl hr e0 (bind s (.ref a)) (.cons rfl .nil) sp) fun r s' z => ?_
  match r, z with
  | .error _, z => exact False.elim z
  | .ok .next, z => exact False.elim z
  | .ok .brk, z => exact False.elim z
  | .ok .cont, z => exact False.elim z
  | .ok (.ret u), ⟨v, H', os, bare, un, ok', r', q⟩ =>
    obtain rfl : v = .bl true := q
    obtain rfl : u = Value.bool true := r'
    have stay : ∀ b o, b ∉ cs.map (·.2) → s.heap.get? b = some o → s'.heap.get? b = some o := fun b o nb e => by
      cases q : H b with
      | none => exact un.keep b o e q (by simp [frs]) (by simp)
      | some u =>
        have q0 := q
        rw [eH] at q
        rcases H0_cases q with ⟨hb, _⟩ | ⟨_, rfl, _, rfl⟩
        · exact absurd hb nb
        · have z2 := un.frzs b _ _ q0
          obtain ⟨e2, _⟩ := ok' b _ z2
          rw [ha] at e; cases e
          exact e2
    have grown : ∀ b, b ∈ cs.map (·.2) → ∃ more : Array Value, s'.heap.get? b = some { cls := .none, data := .fields more } := fun b hb => by
      obtain ⟨more, z⟩ := un.tbls b #[] (by rw [eH]; exact H0_tab hb)
      exact ⟨_, ok' b _ z⟩
    refine ⟨rfl, ⟨fun b o e => ?_, fun b o e => ?_⟩, os, bare⟩
    · by_cases hb : b ∈ cs.map (·.2)
      · obtain ⟨more, hm⟩ := grown b hb
        obtain ⟨p, hp, rfl⟩ := List.mem_map.mp hb
        rw [hT p hp] at e; cases e
        exact .inr (.inl ⟨((C p hp).tab (hT p hp)).isCodeTable, rfl, #[], more, rfl, by rw [Array.empty_append]; exact hm⟩)
      · exact .inl (stay b o hb e)
    · by_cases hb : b ∈ cs.map (·.2)
      · obtain ⟨more, hm⟩ := grown b hb
        exact ⟨_, hm⟩
      · exact ⟨o, stay b o hb e⟩
end
end PI
set_option maxHeartbeats 2000000
/-! PI44: what the head's part of the heap tells: constants, tables of values, exception classes. -/
namespace PI
open PySem PySem.Spec L2
/-! ### constants -/
mutual
def repB (K : PySem.W.Frag) : P → Value → Bool
  | .none, .none => true
  | .bool b, .bool c => b == c
  | .int i, .int j _ => decide (i = j)
  | .str x, .str y _ => decide (x = y)
  | .tuple ds, .ref a => (match K.lookup a with
    | some ⟨.type c, _, .seq its _, _⟩ => decide (c = "tuple") && (decide (its.size ≤ sizeLine) && repBs K ds its.toList)
    | _ => false)
  | _, _ => false
def repBs (K : PySem.W.Frag) : List P → List Value → Bool
  | [], [] => true
  | d :: ds, u :: us => repB K d u && repBs K ds us
  | _, _ => false
end
section
variable {K : PySem.W.Frag}
theorem ba {a b : Bool} (h : (a && b) = true) : a = true ∧ b = true := Bool.and_eq_true_iff.mp h
mutual
theorem repB_ok : ∀ (p : P) (u : Value), repB K p u = true → ∃ v, RelV v u ∧ ∀ G H O, G.K = K → Rep G H O p v
  | .none, u, h => by
    cases u with
    | none => exact ⟨.non, rfl, fun G H O _ => by rw [Rep]⟩
    | _ => cases h
  | .bool b, u, h => by
    cases u with
    | bool c =>
      have e : b = c := eq_of_beq h
      subst e
      exact ⟨.bl b, rfl, fun G H O _ => by rw [Rep]⟩
    | _ => cases h
  | .int i, u, h => by
    cases u with
    | int j t =>
      have e : i = j := of_decide_eq_true h
      subst e
      exact ⟨.int i, ⟨t, rfl⟩, fun G H O _ => by rw [Rep]⟩
    | _ => cases h
  | .str x, u, h => by
    cases u with
    | str y t =>
      have e : x = y := of_decide_eq_true h
      subst e
      exact ⟨.str x, ⟨t, rfl⟩, fun G H O _ => by rw [Rep]⟩
    | _ => cases h
  | .tuple ds, u, h => by
    cases u with
    | ref a =>
      rw [repB] at h
      split at h
      · rename_i c d its n sl q
        obtain ⟨h1, h2⟩ := ba h
        obtain ⟨h3, h4⟩ := ba h2
        obtain ⟨vs, hv, hr⟩ := repBs_ok ds its.toList h4
        refine ⟨.ref a, rfl, fun G H O e => ?_⟩
        rw [Rep]
        exact ⟨a, vs, rfl, .inr ⟨_, its, n, by rw [e]; exact q, congrArg Value.type (of_decide_eq_true h1), rfl, of_decide_eq_true h3, hv⟩, hr G H O e⟩
      · cases h
    | _ => cases h
  | .list ds, u, h => by cases u <;> cases h
  | .dict ds, u, h => by cases u <;> cases h
theorem repBs_ok : ∀ (ps : List P) (us : List Value), repBs K ps us = true → ∃ vs, Vals vs us ∧ ∀ G H O, G.K = K → Reps G H O ps vs
  | [], us, h => by
    cases us with
    | nil => exact ⟨[], .nil, fun G H O _ => reps_nil⟩
    | cons _ _ => cases h
  | d :: ds, us, h => by
    cases us with
    | nil => cases h
    | cons u us =>
      rw [repBs] at h
      obtain ⟨h1, h2⟩ := ba h
      obtain ⟨v, a1, a2⟩ := repB_ok d u h1
      obtain ⟨vs, b1, b2⟩ := repBs_ok ds us h2
      exact ⟨v :: vs, .cons a1 b1, fun G H O e => reps_cons (a2 G H O e) (b2 G H O e)⟩
end
/-- the module's name x is this constant tuple -/
def conB (K : PySem.W.Frag) (x : Str) (p : P) : Bool := repB K p (.ref (He.ga K x))
theorem conB_ok {x : Str} {p : P} (h : conB K x p = true) (G : Gd) (e : G.K = K) (H : Hp) (O : Addr → Prop) : Rep G H O p (.ref (He.ga K x)) := by
  obtain ⟨v, r, k⟩ := repB_ok p _ h
  obtain rfl : v = .ref (He.ga K x) := by
    cases v with
    | ref a => cases (show Value.ref (He.ga K x) = Value.ref a from r); rfl
    | non => cases r
    | bl b => cases r
    | int i => obtain ⟨t, z⟩ := r; cases z
    | str x => obtain ⟨t, z⟩ := r; cases z
    | byt x => obtain ⟨t, z⟩ := r; cases z
    | flt x => obtain ⟨t, z⟩ := r; cases z
    | ty x => cases r
  exact k G H O e
/-! ### tables by texts -/
/-- a table's value: data, a def -/
def svB (K : PySem.W.Frag) : SV → Value → Bool
  | .d p, u => repB K p u
  | .f x, u => (match PySem.W.nsIn K mainGlobals x with
    | some (some (.ref a)) => (match u with
      | .ref b => decide (a = b)
      | _ => false)
    | _ => false)
  | _, _ => false
theorem svB_ok {G : Gd} {h : Heap} (eK : G.K = K) (X : K.In h) (N : h.Ns mainGlobals G.mg) {sv : SV} {u : Value} (e : svB K sv u = true) : ∃ v, RelV v u ∧ ∀ H hs O, RepS G H hs O sv v := by
  cases sv with
  | d p =>
    obtain ⟨v, r, k⟩ := repB_ok p u e
    exact ⟨v, r, fun H hs O => k G H O eK⟩
  | f x =>
    simp only [svB] at e
    split at e
    · rename_i a q
      split at e
      · rename_i b
        have eb : a = b := of_decide_eq_true e
        subst eb
        exact ⟨.ref a, rfl, fun H hs O => ⟨_, PySem.W.mg_of X N q, rfl⟩⟩
      · cases e
    · cases e
  | s _ => cases e
  | h _ => cases e
  | z _ => cases e
/-- the values, in the entries' order, with the keys -/
def entB (K : PySem.W.Frag) : List (Str × SV) → List DictEntry → Bool
  | [], [] => true
  | q :: qs, e :: es => (match e.key with
    | .str x _ => decide (x = q.1)
    | _ => false) && (svB K q.2 e.val && entB K qs es)
  | _, _ => false
def tblB (K : PySem.W.Frag) (a : Addr) (tbl : List (Str × SV)) : Bool := match K.lookup a with
  | some ⟨_, _, .dict es _, _⟩ => entB K tbl es.toList && !(es.toList.any (·.refKey))
  | _ => false
theorem ent_find {x : Str} : ∀ {tbl : List (Str × SV)} {es : List DictEntry}, entB K tbl es = true → (tbl.lookup x = none → es.find? (·.key.isStr x) = none) ∧ ∀ sv, tbl.lookup x = some sv → ∃ e, es.find? (·.key.isStr x) = some e ∧ svB K sv e.val = true
  | [], [], _ => ⟨fun _ => rfl, fun sv h => by cases h⟩
  | [], _ :: _, h => by cases h
  | _ :: _, [], h => by cases h
  | (y, v) :: qs, e :: es, h => by
    unfold entB at h
    obtain ⟨h1, h2⟩ := ba h
    obtain ⟨h3, h4⟩ := ba h2
    obtain ⟨i1, i2⟩ := ent_find (x := x) h4
    have ek : e.key.isStr x = (x == y) := by
      cases q : e.key with
      | str z t =>
        rw [q] at h1
        have : z = y := of_decide_eq_true h1
        subst this
        show (z == x) = (x == z)
        exact BEq.comm
      | _ => rw [q] at h1; cases h1
    cases c : (x == y) with
    | true =>
      refine ⟨fun z => ?_, fun sv z => ⟨e, ?_, ?_⟩⟩
      · rw [List.lookup_cons, c] at z; cases z
      · rw [List.find?_cons, ek, c]
      · rw [List.lookup_cons, c] at z; cases z; exact h3
    | false =>
      refine ⟨fun z => ?_, fun sv z => ?_⟩
      · rw [List.lookup_cons, c] at z
        rw [List.find?_cons, ek, c]
        exact i1 z
      · rw [List.lookup_cons, c] at z
        obtain ⟨e2, a1, a2⟩ := i2 sv z
        exact ⟨e2, by rw [List.find?_cons, ek, c]; exact a1, a2⟩
theorem ktab_of {G : Gd} {h : Heap} {a : Addr} {tbl : List (Str × SV)} (eK : G.K = K) (X : K.In h) (N : h.Ns mainGlobals G.mg) (D : ∃ es n, KDict K G.w a es n) (e : tblB K a tbl = true) : KTab G a tbl := by
  obtain ⟨es, n, k1, k2, k3⟩ := D
  refine ⟨k3, es, n, by rw [eK]; exact k1, k2, fun x => ?_⟩
  unfold tblB at e
  rw [k1] at e
  obtain ⟨e1, e2⟩ := ba e
  obtain ⟨i1, i2⟩ := ent_find (x := x) e1
  have e3 : es.toList.any (·.refKey) = false := by simpa using e2
  refine ⟨fun z => ?_, fun sv z => ?_⟩
  · unfold PySem.W.nsIn
    rw [eK, k1]
    simp only [i1 z, e3]
    rfl
  · obtain ⟨d, a1, a2⟩ := i2 sv z
    obtain ⟨v, r, k⟩ := svB_ok eK X N a2
    refine ⟨v, d.val, ?_, r, k⟩
    unfold PySem.W.nsIn
    rw [eK, k1]
    simp only [a1]
/-! ### exception classes -/
def looB (K : PySem.W.Frag) (C B : Addr) : Bool := (match K.lookup C with
  | some ⟨.type t, dd, .cls cd, sl⟩ => decide (t = "type") && (decide (cd.mro = .ref C :: .ref B :: leTail) && (cd.hasDict && (!cd.hasDel && (match sl.toList with
    | [_, _, _, _, some (.builtin n), _] => decide (n = "LookupError.__new__")
    | _ => false))))
  | _ => false) && (He.eqO (PySem.W.findIn K (.ref C) "__setattr__") (some (some (.builtin "object.__setattr__"))) && (decide (PySem.W.subIn K (.ref C) (.type "BaseException") = some true) && (decide (PySem.W.typeIn K (.ref C) = some (.type "type")) && PySem.W.keepIn K (.ref C))))
theorem looB_ok {C B : Addr} (h : looB K C B = true) : LooC K C B := by
  unfold looB at h
  obtain ⟨h1, h2⟩ := ba h
  obtain ⟨h3, h4⟩ := ba h2
  obtain ⟨h5, h6⟩ := ba h4
  obtain ⟨h7, h8⟩ := ba h6
  refine ⟨?_, He.eqO_ok h3, of_decide_eq_true h5, of_decide_eq_true h7, h8⟩
  split at h1
  · rename_i t dd cd sl q
    obtain ⟨a1, a2⟩ := ba h1
    obtain ⟨a3, a4⟩ := ba a2
    obtain ⟨a5, a6⟩ := ba a4
    obtain ⟨a7, a8⟩ := ba a6
    split at a8
    · rename_i k0 k1 k2 k3 nn k5 e
      obtain ⟨nm, bs, mro, ns, qn, hd, sn, sub, ab, col, del⟩ := cd
      have e1 : t = "type" := of_decide_eq_true a1
      have e3 : mro = .ref C :: .ref B :: leTail := of_decide_eq_true a3
      have e8 : nn = "LookupError.__new__" := of_decide_eq_true a8
      have e5 : hd = true := a5
      have e7 : del = false := by
        have z : (!del) = true := a7
        simpa using z
      subst e1 e3 e5 e7 e8
      have hsl : sl = #[k0, k1, k2, k3, some (.builtin "LookupError.__new__"), k5] := by
        obtain ⟨l⟩ := sl
        exact congrArg Array.mk e
      subst hsl
      exact ⟨nm, qn, ns, bs, sn, sub, ab, col, dd, k0, k1, k2, k3, k5, q⟩
    · cases a8
  · cases h1
end
end PI
set_option maxHeartbeats 2000000
/-! PI45: an __init__ that keeps one field; a Hook over written addresses. -/
namespace PI
open PySem PySem.Spec L2
theorem ini_body {X : Cx} {ob : Addr} {x a b msg f : Str} {j : Nat} {p1 p2 p3 p4 p5 p6 p7 p8 p9 p10 : Pos} (n : NX X [a, b] [(x, false), (a, true), (b, true)]) (hm : X.mg x = some (.ref ob)) (hB : BasI X.K ob) (hl : (p2.endLine == p5.line) = true) :
    PSs X [.Expr (.Call (.Attribute (.Name x p1) "__init__" p2) [.Name a p3, .Constant (.str msg) j p4] [] p5) p6, .Assign [.Attribute (.Name a p7) f p8] (.Name b p9) p10] (tSeq (tDrop (tWI X.K (tCons (tVar 0) (tCons (tC (.str msg)) tNil)))) (tLst X.K f (tVar 0) (tVar 1))) := by
  have h0 : ∀ {p : Pos}, PE X (.Name a p) (tVar 0) := fun {p} => n.var 0 1 rfl rfl
  have h1 : ∀ {p : Pos}, PE X (.Name b p) (tVar 1) := fun {p} => n.var 1 2 rfl rfl
  refine pss_cons (ps_expr (pe_winit (pl := plainOf (.Name x p1) X.env) (n.gl 0 rfl) hm hB (pa_cons h0 (pa_cons pe_str pa_nil rfl) rfl) ?_ (n.db 0 rfl) rfl rfl) rfl) (pss_one (ps_lst0 h0 h1 rfl))
  rw [PySem.arm_eval_Call]
  have e : ∀ ov, methodCall (.Name x p1) "__init__" p2 p5 X.env ov (([.Name a p3, .Constant (.str msg) j p4] : List Expr).length + ([] : List Keyword).length) (backTo p5 (starEach [.Name a p3, .Constant (.str msg) j p4] X.env)) (backToKw p5 (keywordEach [] X.env)) = _ := fun ov => mcall_line rfl hl
  simp only [e]
  rfl
theorem ini_ok {P : Program} {w : World} {K : PySem.W.Frag} {mg : Str → Option Value} {base : Heap} {qual : Str} {params : Arguments} {scope : Scope} {fI ob : Addr} {fd : FuncData} {x a b msg f : Str} {j : Nat} {p1 p2 p3 p4 p5 p6 p7 p8 p9 p10 : Pos} (F : FunD K "__init__" qual params [.Expr (.Call (.Attribute (.Name x p1) "__init__" p2) [.Name a p3, .Constant (.str msg) j p4] [] p5) p6, .Assign [.Attribute (.Name a p7) f p8] (.Name b p9) p10] scope [] [] fI fd)
    (S : FnScope [a, b] [a, b] scope) (hx : nxB scope [(x, false), (a, true), (b, true)] = true) (hm : mg x = some (.ref ob)) (hB : BasI K ob) (hl : (p2.endLine == p5.line) = true) : FnOk P w K mg base (fun _ _ _ _ _ _ => False) 1 fI fd [a, b] (spIni K f) := by
  obtain ⟨oc, od, dV, kV, doc, pm, an, cdv, ct, osl, e, lk, hcd, _, _⟩ := F.ex
  subst e
  refine fn_of lk hcd S (fun vs H Q E q => by obtain ⟨_, _, _, _, rfl, _⟩ := q; rfl) fun A outer s H vs Q E hr q => ⟨_, (ini_body (.of rfl rfl hx) hm hB hl).nox, ?_⟩
  obtain ⟨r, C, B, y, rfl, T, no, eq, k⟩ := q
  refine ⟨_, rfl, ⟨r, C, B, [.str msg], rfl, (by show 1 ≤ 1000; decide), T, eq, ?_⟩⟩
  exact ⟨y, rfl, _, rfl, r, C, B, rfl, T, no, eq, fun D h1 h2 => k D h1 h2⟩
/-! ### a Hook that looks at written addresses -/
def obsL (as : List Addr) (fa : List He.Fa) (fn : List He.DefD) (ts : List He.Tab) (tf : List He.Defn) (ex : PySem.W.Frag → Bool) (g : Addr → Option Obj) : He.AlX := (fun K => (He.obsT fa fn ts K, ex K && He.tabsB g tf K)) (He.frT g as)
theorem saysL_of {as : List Addr} {fa : List He.Fa} {fn : List He.DefD} {ts : List He.Tab} {tf : List He.Defn} {ex : PySem.W.Frag → Bool} {w : World} {h : Heap} (e : obsL as fa fn ts tf ex h.get? = He.valX fn ts w) : He.SaysX fa fn ts tf ex w h (He.frT h.get? as) := by
  obtain ⟨K, eK⟩ : ∃ K, K = He.frT h.get? as := ⟨_, rfl⟩
  have e1 : He.obsT fa fn ts K = He.valT fn ts w := by rw [eK]; exact congrArg (fun z : He.AlX => z.1) e
  have e2 : (ex K && He.tabsB h.get? tf K) = true := by rw [eK]; exact congrArg (fun z : He.AlX => z.2) e
  obtain ⟨h1, h2⟩ := ba e2
  have each : ∀ p ∈ tf, PySem.W.codeHdIn K (He.cT K p).1 (He.cT K p).2 = true ∧ ∃ o, h.get? (He.cT K p).2 = some o ∧ He.emptyTab o = true := fun p hp => by
    obtain ⟨a1, a2⟩ := ba (List.all_eq_true.mp h2 p hp)
    refine ⟨a1, ?_⟩
    split at a2
    · rename_i o q; exact ⟨o, q, a2⟩
    · cases a2
  rw [← eK]
  refine ⟨e1, h1, fun p hp => (each p hp).1, fun p hp => ?_, fun p hp => ?_⟩
  · obtain ⟨_, o, q, z⟩ := each p hp
    rw [eK] at q ⊢
    exact He.frT_none q z
  · obtain ⟨_, o, q, z⟩ := each p hp
    rw [q, He.emptyTab_eq z]
def hookL (as : List Addr) (fa : List He.Fa) (fn : List He.DefD) (ts : List He.Tab) (tf : List He.Defn) (ex : PySem.W.Frag → Bool) : PySem.W.Hook where
  α := He.AlX
  obs := fun s => obsL as fa fn ts tf ex s.heap.get?
  val := fun w => He.valX fn ts w
  says := fun w h => ∃ K : PySem.W.Frag, K.In h ∧ He.SaysX fa fn ts tf ex w h K
  of := fun _ _ e => ⟨_, He.frT_in, saysL_of e⟩
  keeps := fun _ _ _ ⟨K, hK, c⟩ k => ⟨K, PySem.W.Frag.In.keeps hK k, ⟨c.t, c.more, c.hd, c.out, fun p hp => k _ _ (c.empty p hp)⟩⟩
theorem obsL_eq {as : List Addr} {fa : List He.Fa} {fn : List He.DefD} {ts : List He.Tab} {tf : List He.Defn} {ex : PySem.W.Frag → Bool} {g : Addr → Option Obj} {s : Shared} (h : ∀ a, g a = s.heap.get? a) : obsL as fa fn ts tf ex g = (hookL as fa fn ts tf ex).obs s := by
  have e : g = s.heap.get? := funext h
  rw [e] <;> rfl
/-- an own class whose __init__ is LookupError's -/
def basB (K : PySem.W.Frag) (B : Addr) : Bool := PySem.W.readsIn K B (.type "type") && (decide (PySem.W.specialIn K (.ref B) "__getattribute__" = some (some (.builtin "type.__getattribute__"))) && (match PySem.W.findCls K (.ref B) (.type "type") "__init__" with
  | some (.val (.builtin n)) => decide (n = "LookupError.__init__")
  | _ => false))
theorem basB_ok {K : PySem.W.Frag} {B : Addr} (h : basB K B = true) : BasI K B := by
  obtain ⟨h1, h2⟩ := ba h
  obtain ⟨h3, h4⟩ := ba h2
  refine ⟨h1, of_decide_eq_true h3, ?_⟩
  split at h4
  · rename_i n e
    rw [e, show n = "LookupError.__init__" from of_decide_eq_true h4]
  · cases h4
end PI
set_option maxHeartbeats 4000000
namespace k04
open PySem PySem.Spec L2 PI
def top (i : Nat) : Stmt := PySem.Challenge.pw_pacewide_k04_refusals_of_spans.main.body.getD i (.Pass ⟨0, 0, 0, 0⟩)
abbrev s_31 : Stmt := top 31
abbrev sc_31 : Scope := defScope s_31
abbrev s_33 : Stmt := top 33
abbrev sc_33 : Scope := defScope s_33
abbrev s_34 : Stmt := top 34
abbrev sc_34 : Scope := defScope s_34
abbrev s_35 : Stmt := top 35
abbrev sc_35 : Scope := defScope s_35
abbrev s_36 : Stmt := top 36
abbrev sc_36 : Scope := defScope s_36
abbrev s_37 : Stmt := top 37
abbrev sc_37 : Scope := defScope s_37
abbrev s_39 : Stmt := top 39
abbrev sc_39 : Scope := defScope s_39
abbrev s_40 : Stmt := top 40
abbrev sc_40 : Scope := defScope s_40
abbrev s_41 : Stmt := top 41
abbrev sc_41 : Scope := defScope s_41
abbrev s_42 : Stmt := top 42
abbrev sc_42 : Scope := defScope s_42
abbrev s_43 : Stmt := top 43
abbrev sc_43 : Scope := defScope s_43
abbrev s_44 : Stmt := top 44
abbrev sc_44 : Scope := defScope s_44
abbrev s_45 : Stmt := top 45
abbrev sc_45 : Scope := defScope s_45
abbrev s_46 : Stmt := top 46
abbrev sc_46 : Scope := defScope s_46
abbrev s_47 : Stmt := top 47
abbrev sc_47 : Scope := defScope s_47
abbrev s_48 : Stmt := top 48
abbrev sc_48 : Scope := defScope s_48
abbrev s_49 : Stmt := top 49
abbrev sc_49 : Scope := defScope s_49
abbrev s_58 : Stmt := top 58
abbrev sc_58 : Scope := defScope s_58
abbrev s_60 : Stmt := top 60
abbrev sc_60 : Scope := defScope s_60
abbrev s_61 : Stmt := top 61
abbrev sc_61 : Scope := defScope s_61
abbrev s_63 : Stmt := top 63
abbrev sc_63 : Scope := defScope s_63
abbrev s_67 : Stmt := top 67
abbrev sc_67 : Scope := defScope s_67
abbrev s_82 : Stmt := top 82
abbrev sc_82 : Scope := defScope s_82
abbrev s_83 : Stmt := top 83
abbrev sc_83 : Scope := defScope s_83
abbrev s_84 : Stmt := top 84
abbrev sc_84 : Scope := defScope s_84
abbrev s_87 : Stmt := top 87
abbrev sc_87 : Scope := defScope s_87
abbrev s_88 : Stmt := top 88
abbrev sc_88 : Scope := defScope s_88
abbrev s_89 : Stmt := top 89
abbrev sc_89 : Scope := defScope s_89
abbrev s_90 : Stmt := top 90
abbrev sc_90 : Scope := defScope s_90
abbrev s_91 : Stmt := top 91
abbrev sc_91 : Scope := defScope s_91
abbrev s_92 : Stmt := top 92
abbrev sc_92 : Scope := defScope s_92
abbrev s_93 : Stmt := top 93
abbrev sc_93 : Scope := defScope s_93
abbrev s_94 : Stmt := top 94
abbrev sc_94 : Scope := defScope s_94
abbrev s_95 : Stmt := top 95
abbrev sc_95 : Scope := defScope s_95
abbrev s_97 : Stmt := top 97
abbrev sc_97 : Scope := defScope s_97
abbrev s_100 : Stmt := top 100
abbrev sc_100 : Scope := defScope s_100
abbrev s_101 : Stmt := top 101
abbrev sc_101 : Scope := defScope s_101
abbrev s_102 : Stmt := top 102
abbrev sc_102 : Scope := defScope s_102
abbrev s_103 : Stmt := top 103
abbrev sc_103 : Scope := defScope s_103
abbrev s_104 : Stmt := top 104
abbrev sc_104 : Scope := defScope s_104
abbrev s_105 : Stmt := top 105
abbrev sc_105 : Scope := defScope s_105
abbrev s_106 : Stmt := top 106
abbrev sc_106 : Scope := defScope s_106
abbrev s_107 : Stmt := top 107
abbrev sc_107 : Scope := defScope s_107
abbrev s_108 : Stmt := top 108
abbrev sc_108 : Scope := defScope s_108
abbrev s_109 : Stmt := top 109
abbrev sc_109 : Scope := defScope s_109
abbrev s_110 : Stmt := top 110
abbrev sc_110 : Scope := defScope s_110
abbrev s_111 : Stmt := top 111
abbrev sc_111 : Scope := defScope s_111
abbrev s_113 : Stmt := top 113
abbrev sc_113 : Scope := defScope s_113
abbrev s_114 : Stmt := top 114
abbrev sc_114 : Scope := defScope s_114
abbrev s_115 : Stmt := top 115
abbrev sc_115 : Scope := defScope s_115
abbrev s_116 : Stmt := top 116
abbrev sc_116 : Scope := defScope s_116
abbrev s_117 : Stmt := top 117
abbrev sc_117 : Scope := defScope s_117
abbrev s_118 : Stmt := top 118
abbrev sc_118 : Scope := defScope s_118
abbrev V_MOST_WORTH_codes (_ : PySem.W.Frag) : V := .int (255)
abbrev V_REGISTER (_ : PySem.W.Frag) : V := .str "register"
abbrev V_WORTH (_ : PySem.W.Frag) : V := .str "worth"
abbrev V_MOST_ROUNDS (_ : PySem.W.Frag) : V := .int (6)
abbrev V_ROW (_ : PySem.W.Frag) : V := .str "row"
abbrev V_ROUNDS (_ : PySem.W.Frag) : V := .str "rounds"
abbrev V_ARRAY (_ : PySem.W.Frag) : V := .str "array"
abbrev V_FORMS (K : PySem.W.Frag) : V := .ref (He.ga K "FORMS")
abbrev T_FORMS : List (Str × SV) := [("set", .d (.tuple [.str "register", .str "worth"])), ("copy", .d (.tuple [.str "register", .str "register"])), ("+", .d (.tuple [.str "register", .str "register", .str "register"])), ("-", .d (.tuple [.str "register", .str "register", .str "register"])), ("*", .d (.tuple [.str "register", .str "register", .str "register"])), ("<", .d (.tuple [.str "register", .str "register", .str "register"])), ("=", .d (.tuple [.str "register", .str "register", .str "register"])), ("get", .d (.tuple [.str "register", .str "array", .str "register"])), ("put", .d (.tuple [.str "array", .str "register", .str "register"])), ("test", .d (.tuple [.str "register", .str "row"])), ("go", .d (.tuple [.str "row"])), ("count", .d (.tuple [.str "rounds"])), ("again", .d (.tuple [.str "row"])), ("rest", .d (.tuple [])), ("end", .d (.tuple []))]
abbrev V_DEEPEST (_ : PySem.W.Frag) : V := .int (2)
abbrev V_JUMPS (K : PySem.W.Frag) : V := .ref (He.ga K "JUMPS")
abbrev P_JUMPS : P := .tuple [.str "test", .str "go"]
abbrev V_MOST_ROWS (_ : PySem.W.Frag) : V := .int (60)
abbrev V_MOST_MANY (_ : PySem.W.Frag) : V := .int (16)
abbrev V_MOST_ASKS (_ : PySem.W.Frag) : V := .int (3)
abbrev V_MOST_SIZE (_ : PySem.W.Frag) : V := .int (6)
abbrev V_WITHOUT (K : PySem.W.Frag) : V := .ref (He.ga K "WITHOUT")
abbrev P_WITHOUT : P := .tuple [.str "put", .str "test", .str "go", .str "count", .str "again", .str "rest", .str "end"]
abbrev V_WORTHS (_ : PySem.W.Frag) : V := .int (256)
abbrev V_OPS (K : PySem.W.Frag) : V := .ref (He.ga K "OPS")
abbrev T_OPS : List (Str × SV) := [("+", .f "plus"), ("-", .f "minus"), ("*", .f "times"), ("<", .f "is_less"), ("=", .f "are_equal")]
abbrev V_INPUTS (_ : PySem.W.Frag) : V := .int (400)
abbrev V_NOUGHT (K : PySem.W.Frag) : V := .ref (He.ga K "NOUGHT")
abbrev P_NOUGHT : P := .tuple [.int 0, .int 0]
abbrev V_UNSURE (_ : PySem.W.Frag) : V := .str "unsure"
abbrev V_LEFT (_ : PySem.W.Frag) : V := .str "left"
abbrev V_KEPT (_ : PySem.W.Frag) : V := .str "kept"
/-- what is known of the module -/
structure Md (Pr : Program) (w : World) (K : PySem.W.Frag) (mg : Str → Option Value) (base : Heap) : Prop where
  f_abs : mg "abs" = none
  f_all : mg "all" = none
  f_bool : mg "bool" = none
  f_enumerate : mg "enumerate" = none
  f_int : mg "int" = none
  f_isinstance : mg "isinstance" = none
  f_len : mg "len" = none
  f_max : mg "max" = none
  f_min : mg "min" = none
  f_range : mg "range" = none
  f_repr : mg "repr" = none
  f_sorted : mg "sorted" = none
  f_str : mg "str" = none
  f_tuple : mg "tuple" = none
  f_zip : mg "zip" = none
  c_MOST_WORTH_codes : PI.Con mg "MOST_WORTH_codes" (V_MOST_WORTH_codes K)
  c_REGISTER : PI.Con mg "REGISTER" (V_REGISTER K)
  c_WORTH : PI.Con mg "WORTH" (V_WORTH K)
  c_MOST_ROUNDS : PI.Con mg "MOST_ROUNDS" (V_MOST_ROUNDS K)
  c_ROW : PI.Con mg "ROW" (V_ROW K)
  c_ROUNDS : PI.Con mg "ROUNDS" (V_ROUNDS K)
  c_ARRAY : PI.Con mg "ARRAY" (V_ARRAY K)
  c_FORMS : PI.Con mg "FORMS" (V_FORMS K)
  t_FORMS : KTab ⟨K, Pr, w, mg⟩ (He.ga K "FORMS") T_FORMS
  c_DEEPEST : PI.Con mg "DEEPEST" (V_DEEPEST K)
  c_JUMPS : PI.Con mg "JUMPS" (V_JUMPS K)
  r_JUMPS : ∀ H O, Rep ⟨K, Pr, w, mg⟩ H O P_JUMPS (V_JUMPS K)
  c_MOST_ROWS : PI.Con mg "MOST_ROWS" (V_MOST_ROWS K)
  c_MOST_MANY : PI.Con mg "MOST_MANY" (V_MOST_MANY K)
  c_MOST_ASKS : PI.Con mg "MOST_ASKS" (V_MOST_ASKS K)
  c_MOST_SIZE : PI.Con mg "MOST_SIZE" (V_MOST_SIZE K)
  c_WITHOUT : PI.Con mg "WITHOUT" (V_WITHOUT K)
  r_WITHOUT : ∀ H O, Rep ⟨K, Pr, w, mg⟩ H O P_WITHOUT (V_WITHOUT K)
  c_WORTHS : PI.Con mg "WORTHS" (V_WORTHS K)
  c_OPS : PI.Con mg "OPS" (V_OPS K)
  t_OPS : KTab ⟨K, Pr, w, mg⟩ (He.ga K "OPS") T_OPS
  c_INPUTS : PI.Con mg "INPUTS" (V_INPUTS K)
  c_NOUGHT : PI.Con mg "NOUGHT" (V_NOUGHT K)
  r_NOUGHT : ∀ H O, Rep ⟨K, Pr, w, mg⟩ H O P_NOUGHT (V_NOUGHT K)
  c_UNSURE : PI.Con mg "UNSURE" (V_UNSURE K)
  c_LEFT : PI.Con mg "LEFT" (V_LEFT K)
  c_KEPT : PI.Con mg "KEPT" (V_KEPT K)
  d_is_whole_codes : mg "is_whole_codes" = some (.ref (He.ga K "is_whole_codes")) ∧ ∃ fd, FunD K "is_whole" "is_whole" (defArgs s_31) (defBody s_31) sc_31 [] [] (He.ga K "is_whole_codes") fd
  d_is_between : mg "is_between" = some (.ref (He.ga K "is_between")) ∧ ∃ fd, FunD K "is_between" "is_between" (defArgs s_33) (defBody s_33) sc_33 [] [] (He.ga K "is_between") fd
  d_is_span : mg "is_span" = some (.ref (He.ga K "is_span")) ∧ ∃ fd, FunD K "is_span" "is_span" (defArgs s_34) (defBody s_34) sc_34 [] [] (He.ga K "is_span") fd
  d_limits_of : mg "limits_of" = some (.ref (He.ga K "limits_of")) ∧ ∃ fd, FunD K "limits_of" "limits_of" (defArgs s_35) (defBody s_35) sc_35 [] [] (He.ga K "limits_of") fd
  d_is_part : mg "is_part" = some (.ref (He.ga K "is_part")) ∧ ∃ fd, FunD K "is_part" "is_part" (defArgs s_36) (defBody s_36) sc_36 [] [] (He.ga K "is_part") fd
  d_is_row_within_codes : mg "is_row_within_codes" = some (.ref (He.ga K "is_row_within_codes")) ∧ ∃ fd, FunD K "is_row_within" "is_row_within" (defArgs s_37) (defBody s_37) sc_37 [] [] (He.ga K "is_row_within_codes") fd
  d_loops_by : mg "loops_by" = some (.ref (He.ga K "loops_by")) ∧ ∃ fd, FunD K "loops_by" "loops_by" (defArgs s_39) (defBody s_39) sc_39 [] [] (He.ga K "loops_by") fd
  d_around_by : mg "around_by" = some (.ref (He.ga K "around_by")) ∧ ∃ fd, FunD K "around_by" "around_by" (defArgs s_40) (defBody s_40) sc_40 [] [] (He.ga K "around_by") fd
  d_is_apart : mg "is_apart" = some (.ref (He.ga K "is_apart")) ∧ ∃ fd, FunD K "is_apart" "is_apart" (defArgs s_41) (defBody s_41) sc_41 [] [] (He.ga K "is_apart") fd
  d_are_loops : mg "are_loops" = some (.ref (He.ga K "are_loops")) ∧ ∃ fd, FunD K "are_loops" "are_loops" (defArgs s_42) (defBody s_42) sc_42 [] [] (He.ga K "are_loops") fd
  d_are_jumps : mg "are_jumps" = some (.ref (He.ga K "are_jumps")) ∧ ∃ fd, FunD K "are_jumps" "are_jumps" (defArgs s_43) (defBody s_43) sc_43 [] [] (He.ga K "are_jumps") fd
  d_are_rows : mg "are_rows" = some (.ref (He.ga K "are_rows")) ∧ ∃ fd, FunD K "are_rows" "are_rows" (defArgs s_44) (defBody s_44) sc_44 [] [] (He.ga K "are_rows") fd
  d_is_code : mg "is_code" = some (.ref (He.ga K "is_code")) ∧ ∃ fd, FunD K "is_code" "is_code" (defArgs s_45) (defBody s_45) sc_45 [] [] (He.ga K "is_code") fd
  d_need_code : mg "need_code" = some (.ref (He.ga K "need_code")) ∧ ∃ fd, FunD K "need_code" "need_code" (defArgs s_46) (defBody s_46) sc_46 [] [] (He.ga K "need_code") fd
  d_need_row : mg "need_row" = some (.ref (He.ga K "need_row")) ∧ ∃ fd, FunD K "need_row" "need_row" (defArgs s_47) (defBody s_47) sc_47 [] [] (He.ga K "need_row") fd
  d_ways_by : mg "ways_by" = some (.ref (He.ga K "ways_by")) ∧ ∃ fd, FunD K "ways_by" "ways_by" (defArgs s_48) (defBody s_48) sc_48 [] [] (He.ga K "ways_by") fd
  d_gives_by : mg "gives_by" = some (.ref (He.ga K "gives_by")) ∧ ∃ fd, FunD K "gives_by" "gives_by" (defArgs s_49) (defBody s_49) sc_49 [] [] (He.ga K "gives_by") fd
  d_is_whole_terms : mg "is_whole_terms" = some (.ref (He.ga K "is_whole_terms")) ∧ ∃ fd, FunD K "is_whole" "is_whole" (defArgs s_58) (defBody s_58) sc_58 [] [("least", .int 0)] (He.ga K "is_whole_terms") fd
  d_is_worth : mg "is_worth" = some (.ref (He.ga K "is_worth")) ∧ ∃ fd, FunD K "is_worth" "is_worth" (defArgs s_60) (defBody s_60) sc_60 [] [] (He.ga K "is_worth") fd
  d_is_op : mg "is_op" = some (.ref (He.ga K "is_op")) ∧ ∃ fd, FunD K "is_op" "is_op" (defArgs s_61) (defBody s_61) sc_61 [] [] (He.ga K "is_op") fd
  d_is_row_within_plain : mg "is_row_within_plain" = some (.ref (He.ga K "is_row_within_plain")) ∧ ∃ fd, FunD K "is_row_within" "is_row_within" (defArgs s_63) (defBody s_63) sc_63 [] [] (He.ga K "is_row_within_plain") fd
  d_need_few : mg "need_few" = some (.ref (He.ga K "need_few")) ∧ ∃ fd, FunD K "need_few" "need_few" (defArgs s_67) (defBody s_67) sc_67 [] [] (He.ga K "need_few") fd
  d_joined_span : mg "joined_span" = some (.ref (He.ga K "joined_span")) ∧ ∃ fd, FunD K "joined_span" "joined_span" (defArgs s_83) (defBody s_83) sc_83 [] [] (He.ga K "joined_span") fd
  d_does_lie : mg "does_lie" = some (.ref (He.ga K "does_lie")) ∧ ∃ fd, FunD K "does_lie" "does_lie" (defArgs s_84) (defBody s_84) sc_84 [] [] (He.ga K "does_lie") fd
  d_begin_standing : mg "begin_standing" = some (.ref (He.ga K "begin_standing")) ∧ ∃ fd, FunD K "begin_standing" "begin_standing" (defArgs s_87) (defBody s_87) sc_87 [] [] (He.ga K "begin_standing") fd
  d_with_span : mg "with_span" = some (.ref (He.ga K "with_span")) ∧ ∃ fd, FunD K "with_span" "with_span" (defArgs s_88) (defBody s_88) sc_88 [] [] (He.ga K "with_span") fd
  d_span_given : mg "span_given" = some (.ref (He.ga K "span_given")) ∧ ∃ fd, FunD K "span_given" "span_given" (defArgs s_89) (defBody s_89) sc_89 [] [] (He.ga K "span_given") fd
  d_standing_behind : mg "standing_behind" = some (.ref (He.ga K "standing_behind")) ∧ ∃ fd, FunD K "standing_behind" "standing_behind" (defArgs s_90) (defBody s_90) sc_90 [] [] (He.ga K "standing_behind") fd
  d_led_standings : mg "led_standings" = some (.ref (He.ga K "led_standings")) ∧ ∃ fd, FunD K "led_standings" "led_standings" (defArgs s_91) (defBody s_91) sc_91 [] [] (He.ga K "led_standings") fd
  d_joined_standing : mg "joined_standing" = some (.ref (He.ga K "joined_standing")) ∧ ∃ fd, FunD K "joined_standing" "joined_standing" (defArgs s_92) (defBody s_92) sc_92 [] [] (He.ga K "joined_standing") fd
  d_lies_within : mg "lies_within" = some (.ref (He.ga K "lies_within")) ∧ ∃ fd, FunD K "lies_within" "lies_within" (defArgs s_93) (defBody s_93) sc_93 [] [] (He.ga K "lies_within") fd
  d_least_sheet : mg "least_sheet" = some (.ref (He.ga K "least_sheet")) ∧ ∃ fd, FunD K "least_sheet" "least_sheet" (defArgs s_94) (defBody s_94) sc_94 [] [] (He.ga K "least_sheet") fd
  d_does_hold : mg "does_hold" = some (.ref (He.ga K "does_hold")) ∧ ∃ fd, FunD K "does_hold" "does_hold" (defArgs s_95) (defBody s_95) sc_95 [] [] (He.ga K "does_hold") fd
  d_is_kept_by : mg "is_kept_by" = some (.ref (He.ga K "is_kept_by")) ∧ ∃ fd, FunD K "is_kept_by" "is_kept_by" (defArgs s_97) (defBody s_97) sc_97 [] [] (He.ga K "is_kept_by") fd
  d_is_span_of : mg "is_span_of" = some (.ref (He.ga K "is_span_of")) ∧ ∃ fd, FunD K "is_span_of" "is_span_of" (defArgs s_100) (defBody s_100) sc_100 [] [] (He.ga K "is_span_of") fd
  d_are_spans : mg "are_spans" = some (.ref (He.ga K "are_spans")) ∧ ∃ fd, FunD K "are_spans" "are_spans" (defArgs s_101) (defBody s_101) sc_101 [] [] (He.ga K "are_spans") fd
  d_is_standing : mg "is_standing" = some (.ref (He.ga K "is_standing")) ∧ ∃ fd, FunD K "is_standing" "is_standing" (defArgs s_102) (defBody s_102) sc_102 [] [] (He.ga K "is_standing") fd
  d_is_sheet_of_spans : mg "is_sheet_of_spans" = some (.ref (He.ga K "is_sheet_of_spans")) ∧ ∃ fd, FunD K "is_sheet_of_spans" "is_sheet_of_spans" (defArgs s_103) (defBody s_103) sc_103 [] [] (He.ga K "is_sheet_of_spans") fd
  d_need_span : mg "need_span" = some (.ref (He.ga K "need_span")) ∧ ∃ fd, FunD K "need_span" "need_span" (defArgs s_104) (defBody s_104) sc_104 [] [] (He.ga K "need_span") fd
  d_need_claim : mg "need_claim" = some (.ref (He.ga K "need_claim")) ∧ ∃ fd, FunD K "need_claim" "need_claim" (defArgs s_105) (defBody s_105) sc_105 [] [] (He.ga K "need_claim") fd
  d_span_sheet : mg "span_sheet" = some (.ref (He.ga K "span_sheet")) ∧ ∃ fd, FunD K "span_sheet" "span_sheet" (defArgs s_106) (defBody s_106) sc_106 [] [] (He.ga K "span_sheet") fd
  d_is_span_sheet : mg "is_span_sheet" = some (.ref (He.ga K "is_span_sheet")) ∧ ∃ fd, FunD K "is_span_sheet" "is_span_sheet" (defArgs s_107) (defBody s_107) sc_107 [] [] (He.ga K "is_span_sheet") fd
  d_span_made : mg "span_made" = some (.ref (He.ga K "span_made")) ∧ ∃ fd, FunD K "span_made" "span_made" (defArgs s_108) (defBody s_108) sc_108 [] [] (He.ga K "span_made") fd
  d_narrowed : mg "narrowed" = some (.ref (He.ga K "narrowed")) ∧ ∃ fd, FunD K "narrowed" "narrowed" (defArgs s_109) (defBody s_109) sc_109 [] [] (He.ga K "narrowed") fd
  d_claim_paper : mg "claim_paper" = some (.ref (He.ga K "claim_paper")) ∧ ∃ fd, FunD K "claim_paper" "claim_paper" (defArgs s_110) (defBody s_110) sc_110 [] [] (He.ga K "claim_paper") fd
  d_shows_claim : mg "shows_claim" = some (.ref (He.ga K "shows_claim")) ∧ ∃ fd, FunD K "shows_claim" "shows_claim" (defArgs s_111) (defBody s_111) sc_111 [] [] (He.ga K "shows_claim") fd
  d__law_tin : mg "_law_tin" = some (.ref (He.ga K "_law_tin")) ∧ ∃ fd, FunD K "_law_tin" "_law_tin" (defArgs s_113) (defBody s_113) sc_113 [] [] (He.ga K "_law_tin") fd
  d__law_dealt : mg "_law_dealt" = some (.ref (He.ga K "_law_dealt")) ∧ ∃ fd, FunD K "_law_dealt" "_law_dealt" (defArgs s_114) (defBody s_114) sc_114 [] [] (He.ga K "_law_dealt") fd
  d__law_picked : mg "_law_picked" = some (.ref (He.ga K "_law_picked")) ∧ ∃ fd, FunD K "_law_picked" "_law_picked" (defArgs s_115) (defBody s_115) sc_115 [] [] (He.ga K "_law_picked") fd
  d__law_right : mg "_law_right" = some (.ref (He.ga K "_law_right")) ∧ ∃ fd, FunD K "_law_right" "_law_right" (defArgs s_117) (defBody s_117) sc_117 [] [] (He.ga K "_law_right") fd
  e_NoCode : ExcV K mg "NoCode" (He.ga K "NoCode")
  e_TooWide : ExcV K mg "TooWide" (He.ga K "TooWide")
  x_NoRow : ExcF Pr w K mg base "NoRow" "number" (He.ga K "NoRow") (He.ga K "WalkError") (He.ma K (He.ga K "NoRow") "__init__") 1
  x_NoNumber : ExcF Pr w K mg base "NoNumber" "number" (He.ga K "NoNumber") (He.ga K "WalkError") (He.ma K (He.ga K "NoNumber") "__init__") 1
  g_NoSystem : mg "NoSystem" = some (.ref (He.ga K "NoSystem"))
  g_NoSpot : mg "NoSpot" = some (.ref (He.ga K "NoSpot"))
  g_NoChoice : mg "NoChoice" = some (.ref (He.ga K "NoChoice"))
  g_NoPlan : mg "NoPlan" = some (.ref (He.ga K "NoPlan"))
  g_NoWalk : mg "NoWalk" = some (.ref (He.ga K "NoWalk"))
  g_NoMost : mg "NoMost" = some (.ref (He.ga K "NoMost"))
  g_NoInput : mg "NoInput" = some (.ref (He.ga K "NoInput"))
  xf_NoRow : XfC K (He.ga K "NoRow")
  xf_NoNumber : XfC K (He.ga K "NoNumber")
  ex_c_c : PySem.W.exmOne K (.ref (He.ga K "NoCode")) (.ref (He.ga K "NoCode")) = some true
  ex_n_c : PySem.W.exmOne K (.ref (He.ga K "NoNumber")) (.ref (He.ga K "NoCode")) = some false
  ex_n_n : PySem.W.exmOne K (.ref (He.ga K "NoNumber")) (.ref (He.ga K "NoNumber")) = some true
  ex_r_c : PySem.W.exmOne K (.ref (He.ga K "NoRow")) (.ref (He.ga K "NoCode")) = some false
  ex_r_n : PySem.W.exmOne K (.ref (He.ga K "NoRow")) (.ref (He.ga K "NoNumber")) = some false
  ex_r_r : PySem.W.exmOne K (.ref (He.ga K "NoRow")) (.ref (He.ga K "NoRow")) = some true
  ex_w_c : PySem.W.exmOne K (.ref (He.ga K "TooWide")) (.ref (He.ga K "NoCode")) = some false
  ex_w_n : PySem.W.exmOne K (.ref (He.ga K "TooWide")) (.ref (He.ga K "NoNumber")) = some false
  ex_w_r : PySem.W.exmOne K (.ref (He.ga K "TooWide")) (.ref (He.ga K "NoRow")) = some false
  ex_w_w : PySem.W.exmOne K (.ref (He.ga K "TooWide")) (.ref (He.ga K "TooWide")) = some true
  d__law_met : mg "_law_met" = some (.ref (He.ga K "_law_met")) ∧ ∃ fd, FunD K "_law_met" "_law_met" (defArgs s_116) (defBody s_116) sc_116 [] [] (He.ga K "_law_met") fd
  d_law : mg "law" = some (.ref (He.ga K "law")) ∧ ∃ fd, FunD K "law" "law" (defArgs s_118) (defBody s_118) sc_118 [] [] (He.ga K "law") fd
  tb_right : LamX.TabB base mg (He.codeOf K ("_law_right", none)) 645
  tb_law : LamX.TabB base mg (He.codeOf K ("law", none)) 652
/-! ### _law_met -/
def N_116 : List Str := ["call", "error"]
theorem fs_116 : FnScope N_116 ["call"] sc_116 := ⟨rfl, rfl, rfl, by decide +kernel, rfl, by decide +kernel, by decide +kernel⟩
/-- what a refusal is told as -/
def metP (e : Exn) : Option P := match e.fp with
  | none => if e.x = "NoCode" then some (.str "code") else if e.x = "TooWide" then some (.str "wide") else none
  | some (f, p) => if f = "number" then (if e.x = "NoNumber" then (reprP p).map fun t => .tuple [.str "number", .str t] else if e.x = "NoRow" then (reprP p).map fun t => .tuple [.str "row", .str t] else none) else none
def metL (G : Gd) : List Cl := [(.ref (He.ga G.K "NoCode"), none, tsW "code"), (.ref (He.ga G.K "NoNumber"), some 1, tsF G (He.ga G.K "NoNumber") "number" 1 "number"), (.ref (He.ga G.K "NoRow"), some 1, tsF G (He.ga G.K "NoRow") "number" 1 "row"), (.ref (He.ga G.K "TooWide"), none, tsW "wide"),
  (.ref (He.ga G.K "NoSystem"), none, tsNo), (.ref (He.ga G.K "NoSpot"), none, tsNo), (.ref (He.ga G.K "NoChoice"), none, tsNo), (.ref (He.ga G.K "NoPlan"), none, tsNo), (.ref (He.ga G.K "NoWalk"), some 1, tsNo), (.ref (He.ga G.K "NoMost"), none, tsNo), (.ref (He.ga G.K "NoInput"), none, tsNo)]
def hds_116 : List ExceptHandler := match defBody s_116 with
  | [.Try _ hs _ _ _] => hs
  | _ => []
def LM : List (Str × Bool) := [("NoCode", false), ("NoNumber", false), ("NoRow", false), ("TooWide", false), ("NoSystem", false), ("NoSpot", false), ("NoChoice", false), ("NoPlan", false), ("NoWalk", false), ("NoMost", false), ("NoInput", false), ("repr", false), ("error", true)]
theorem met_cls {X : Cx} (m : MX Md X) (n : NX X N_116 LM)
    (hl : X.env.kindOf "error" = some .local) (hG : X.A.guards = some []) (hu : X.A.units + 70 < cLine) : ClsOk X hds_116 (metL (gd X)) := by
  have nm : ∀ (i : Nat) (x : Str) (a : Addr), LM[i]? = some (x, false) → X.mg x = some (.ref a) → L2.Names X x (.ref a) := fun i x a h g => ⟨n.gl i h, n.db i h, .inl g⟩
  have v := n.l 12 "error" true rfl
  exact .plain (nm 0 _ _ rfl m.e_NoCode.g) (fun _ _ _ _ _ _ _ => su_word)
    (.named (i := 1) (nm 1 _ _ rfl m.x_NoNumber.g) (by rw [n.n]; rfl) hl (fun a oe cls d pn hz hf => su_field m.xf_NoNumber m.x_NoNumber.no hz hf hG hu (n.gl 11 rfl) m.f_repr (by rw [n.n]; rfl) v.1 v.2.1 v.2.2 rfl rfl rfl rfl)
    (.named (i := 1) (nm 2 _ _ rfl m.x_NoRow.g) (by rw [n.n]; rfl) hl (fun a oe cls d pn hz hf => su_field m.xf_NoRow m.x_NoRow.no hz hf hG hu (n.gl 11 rfl) m.f_repr (by rw [n.n]; rfl) v.1 v.2.1 v.2.2 rfl rfl rfl rfl)
    (.plain (nm 3 _ _ rfl m.e_TooWide.g) (fun _ _ _ _ _ _ _ => su_word)
    (.plain (nm 4 _ _ rfl m.g_NoSystem) (fun _ _ _ _ _ _ _ => su_no)
    (.plain (nm 5 _ _ rfl m.g_NoSpot) (fun _ _ _ _ _ _ _ => su_no)
    (.plain (nm 6 _ _ rfl m.g_NoChoice) (fun _ _ _ _ _ _ _ => su_no)
    (.plain (nm 7 _ _ rfl m.g_NoPlan) (fun _ _ _ _ _ _ _ => su_no)
    (.named (i := 1) (nm 8 _ _ rfl m.g_NoWalk) (by rw [n.n]; rfl) hl (fun _ _ _ _ _ _ _ => su_no)
    (.plain (nm 9 _ _ rfl m.g_NoMost) (fun _ _ _ _ _ _ _ => su_no)
    (.plain (nm 10 _ _ rfl m.g_NoInput) (fun _ _ _ _ _ _ _ => su_no) .nil))))))))))
theorem met_do {Pr : Program} {w : World} {K : PySem.W.Frag} {mg : Str → Option Value} {base : Heap} (m : Md Pr w K mg base) : ClsDo ⟨K, Pr, w, mg⟩ N_116.length (metL ⟨K, Pr, w, mg⟩) metP := by
  intro e p he cls d σ H O Q hl r k
  obtain ⟨x, fp⟩ := e
  unfold metP at he
  split at he
  · split at he
    · rename_i hx
      cases he
      have hx : x = ("NoCode" : Str) := hx
      subst hx
      obtain ⟨⟨C, gC, rfl⟩, _⟩ := r
      have gC : mg "NoCode" = some (.ref C) := gC; rw [m.e_NoCode.g] at gC; cases gC
      exact cl_word m.ex_c_c (k _ _ (Same.refl _) (by rw [Rep]))
    · split at he
      · rename_i hx
        cases he
        have hx : x = ("TooWide" : Str) := hx
        subst hx
        obtain ⟨⟨C, gC, rfl⟩, _⟩ := r
        have gC : mg "TooWide" = some (.ref C) := gC; rw [m.e_TooWide.g] at gC; cases gC
        exact cl_skip m.ex_w_c (cl_skip m.ex_w_n (cl_skip m.ex_w_r (cl_word m.ex_w_w (k _ _ (Same.refl _) (by rw [Rep])))))
      · cases he
  · rename_i f q e2
    have e2 : fp = some (f, q) := e2
    subst e2
    split at he
    · rename_i hf
      subst hf
      split at he
      · rename_i hx
        have hx : x = ("NoNumber" : Str) := hx
        subst hx
        obtain ⟨t, ht, rfl⟩ := Option.map_eq_some_iff.mp he
        have r0 := r
        obtain ⟨⟨C, gC, rfl⟩, _⟩ := r0
        have gC : mg "NoNumber" = some (.ref C) := gC; rw [m.x_NoNumber.g] at gC; cases gC
        exact cl_skip m.ex_n_c (cl_field m.ex_n_n hl (by decide) m.x_NoNumber.g r ht k)
      · split at he
        · rename_i hx
          have hx : x = ("NoRow" : Str) := hx
          subst hx
          obtain ⟨t, ht, rfl⟩ := Option.map_eq_some_iff.mp he
          have r0 := r
          obtain ⟨⟨C, gC, rfl⟩, _⟩ := r0
          have gC : mg "NoRow" = some (.ref C) := gC; rw [m.x_NoRow.g] at gC; cases gC
          exact cl_skip m.ex_r_c (cl_skip m.ex_r_n (cl_field m.ex_r_r hl (by decide) m.x_NoRow.g r ht k))
        · cases he
    · cases he
/-- _law_met(lambda: ..) -/
theorem met_e {X : Cx} {j : Nat} {N : List Str} {L : List (Str × Bool)} {W : List Str} {sc : Scope} (Q : QX X (j + 2) N L W sc) (hG : X.A.guards = some []) (m : MX Md X) (lc : LamC X) (es : X.env.scope = sc) (i : Nat) (hi : L[i]? = some (("_law_met" : Str), false)) {params : Arguments} {body : Expr} {scope : Scope} {p lpos pos : Pos} {fb : ExX} (L' : List (Str × Bool))
    (h1 : nxB scope L' = true) (h2 : LamX.lamSB sc scope = true) (hdef : defaultsOf params X.env = ([], [])) (hbind : ∀ (q : Str) (cl : List (Str × Addr)) (pm cv ctv : Value), bindArgs (PySem.W.kla_fn "<lambda>" q params body scope cl pm cv ctv) ⟨[], []⟩ = pure [])
    (hb : ∀ (Y : Cx) (E : WX), LQ Y j N L' → Takes Y E → MX Md Y → PE Y body (tEX (gd Y) E fb)) : PE X (.Call (.Name "_law_met" p) [.Lambda params body scope lpos] [] pos) (tE (gd X) (xMet metP fb)) := by
  obtain ⟨cc, Pt, B, hc, hT, hu⟩ := lc.ex
  obtain ⟨hm, fd, F⟩ := m.d__law_met
  have bd := F.bindsN (ps := ["call"]) fun _ _ _ _ _ _ us hl => match us, hl with | [_], _ => rfl
  obtain ⟨oc, od, dV, kV, doc, pm, an, cdv, ct, osl, e, lk, hcd, _, _⟩ := F.ex
  subst e
  refine pE_met (L := metL (gd X)) (metP := metP) (Q.n.gl i hi) hm F.kp lk hcd bd fs_116 rfl (.inl (by decide +kernel)) (fun _ => rfl) (fun s H => ?_) (met_do m) B hc hT hu Q.d.room (LamX.lamS_by (by rw [es]; exact h2)) hdef hbind (fun Y E hg hbs hN hs hr tk => ?_) (Q.n.db i hi) (by decide +kernel) (by decide +kernel)
  · exact met_cls (X := (cxOf C8.CX0 X.prog X.w X.K X.mg X.base N_116 "_law_met" sc_116 (He.ga X.K "_law_met") cdv X.A X.stack s H C8.E0).nox) m (.of rfl rfl (show nxB sc_116 LM = true by decide +kernel)) (show sc_116.names.lookup ("error" : Str) = some NameKind.local by decide +kernel) hG (by have := Q.d.room.un; show X.A.units + 3 + 70 < cLine; omega)
  · have z := hb Y (fun cls d _ H => E cls d H) ⟨.of (hN.trans Q.n.n) hs h1, hr⟩ tk (md_of hg hbs m)
    rw [hg] at z
    exact z

/-! ### is_whole -/
def N_31 : List Str := ["thing"]
def L_31 : List (Str × Bool) := [("isinstance", false), ("thing", true), ("int", false), ("bool", false)]
def W_31 : List Str := []
theorem fs_31 : FnScope N_31 ["thing"] sc_31 := ⟨rfl, rfl, rfl, by decide +kernel, rfl, by decide +kernel, by decide +kernel⟩
def b_31 : Sx := (sSeq (sRet (xB (xAnd [(xIsi "int" (rVar 0)), (xB (bNot (bOf (xIsi "bool" (rVar 0)))))])))
    sNil)
theorem body_31 (X : Cx) (Q : QX X 0 N_31 L_31 W_31 sc_31) (es : X.env.scope = sc_31) (m : MX Md X) : PSs X (defBody s_31) (tS (gd X) b_31) := by
  have v_thing : ∀ {p : Pos}, PE X (.Name "thing" p) (tVar 0) := fun {p} => Q.n.var 0 1 rfl rfl
  exact (pS_cons (pS_ret (F_and (.cons (F_isi Q.n 0 2 rfl m.f_isinstance rfl m.f_int bb_int nn_int (rV v_thing) True.intro) (.cons (pE_not (F_isi Q.n 0 3 rfl m.f_isinstance rfl m.f_bool bb_bool nn_bool (rV v_thing) True.intro)) .nil))))
    pS_nil)
def F_is_whole_codes : Fn := bodyFn 1 N_31.length b_31
theorem callee_is_whole_codes {Pr : Program} {w : World} {K : PySem.W.Frag} {mg : Str → Option Value} {base : Heap} (m : Md Pr w K mg base) : Callee Pr w K mg base "is_whole_codes" 1 1 F_is_whole_codes := by
  obtain ⟨hm, fd, F⟩ := m.d_is_whole_codes
  exact callee_by (M := Md) F fs_31 hm (F.bindsN (ps := ["thing"]) fun _ _ _ _ _ _ us hl => match us, hl with | [_], _ => rfl) rfl m (by decide +kernel) (by decide +kernel) body_31
/-! ### limits_of -/
def N_35 : List Str := ["many", "arrays", "rows"]
def L_35 : List (Str × Bool) := [("REGISTER", false), ("many", true), ("WORTH", false), ("MOST_WORTH_codes", false), ("ARRAY", false), ("len", false), ("arrays", true), ("ROW", false), ("rows", true), ("ROUNDS", false), ("MOST_ROUNDS", false)]
def W_35 : List Str := []
theorem fs_35 : FnScope N_35 ["many", "arrays", "rows"] sc_35 := ⟨rfl, rfl, rfl, by decide +kernel, rfl, by decide +kernel, by decide +kernel⟩
def b_35 : Sx := (sSeq (sRet (xDisp [((xC (.str "register")), (xTup [(false, (xC (.int 0))), (false, (xBin subP (rVar 0) (rOf (xC (.int 1)))))])), ((xC (.str "worth")), (xTup [(false, (xC (.int 0))), (false, (xC (.int 255)))])), ((xC (.str "array")), (xTup [(false, (xC (.int 0))), (false, (xBin subP (rOf (xBlt lenS [(rVar 1)])) (rOf (xC (.int 1)))))])), ((xC (.str "row")), (xTup [(false, (xC (.int 0))), (false, (xBin subP (rOf (xBlt lenS [(rVar 2)])) (rOf (xC (.int 1)))))])), ((xC (.str "rounds")), (xTup [(false, (xC (.int 1))), (false, (xC (.int 6)))]))]))
    sNil)
theorem body_35 (X : Cx) (Q : QX X 0 N_35 L_35 W_35 sc_35) (es : X.env.scope = sc_35) (m : MX Md X) : PSs X (defBody s_35) (tS (gd X) b_35) := by
  have g_REGISTER : ∀ {p : Pos}, PE X (.Name "REGISTER" p) (tC (V_REGISTER X.K)) := fun {p} => Q.n.con 0 rfl m.c_REGISTER
  have v_many : ∀ {p : Pos}, PE X (.Name "many" p) (tVar 0) := fun {p} => Q.n.var 0 1 rfl rfl
  have g_WORTH : ∀ {p : Pos}, PE X (.Name "WORTH" p) (tC (V_WORTH X.K)) := fun {p} => Q.n.con 2 rfl m.c_WORTH
  have g_MOST_WORTH_codes : ∀ {p : Pos}, PE X (.Name "MOST_WORTH_codes" p) (tC (V_MOST_WORTH_codes X.K)) := fun {p} => Q.n.con 3 rfl m.c_MOST_WORTH_codes
  have g_ARRAY : ∀ {p : Pos}, PE X (.Name "ARRAY" p) (tC (V_ARRAY X.K)) := fun {p} => Q.n.con 4 rfl m.c_ARRAY
  have v_arrays : ∀ {p : Pos}, PE X (.Name "arrays" p) (tVar 1) := fun {p} => Q.n.var 1 6 rfl rfl
  have g_ROW : ∀ {p : Pos}, PE X (.Name "ROW" p) (tC (V_ROW X.K)) := fun {p} => Q.n.con 7 rfl m.c_ROW
  have v_rows : ∀ {p : Pos}, PE X (.Name "rows" p) (tVar 2) := fun {p} => Q.n.var 2 8 rfl rfl
  have g_ROUNDS : ∀ {p : Pos}, PE X (.Name "ROUNDS" p) (tC (V_ROUNDS X.K)) := fun {p} => Q.n.con 9 rfl m.c_ROUNDS
  have g_MOST_ROUNDS : ∀ {p : Pos}, PE X (.Name "MOST_ROUNDS" p) (tC (V_MOST_ROUNDS X.K)) := fun {p} => Q.n.con 10 rfl m.c_MOST_ROUNDS
  exact (pS_cons (pS_ret (pE_disp (.cons (eC _ g_REGISTER rp_str) (F_tup (.cons kI True.intro (.cons (F_sub (rV v_many) (rE kI)) True.intro .nil))) (.cons (eC _ g_WORTH rp_str) (F_tup (.cons kI True.intro (.cons (eC _ g_MOST_WORTH_codes rp_int) True.intro .nil))) (.cons (eC _ g_ARRAY rp_str) (F_tup (.cons kI True.intro (.cons (F_sub (rE (F_len Q.n 5 rfl m.f_len (rV v_arrays) True.intro)) (rE kI)) True.intro .nil))) (.cons (eC _ g_ROW rp_str) (F_tup (.cons kI True.intro (.cons (F_sub (rE (F_len Q.n 5 rfl m.f_len (rV v_rows) True.intro)) (rE kI)) True.intro .nil))) (.cons (eC _ g_ROUNDS rp_str) (F_tup (.cons kI True.intro (.cons (eC _ g_MOST_ROUNDS rp_int) True.intro .nil))) .nil))))) rfl rfl (by decide) (by decide)))
    pS_nil)
def F_limits_of : Fn := bodyFn 3 N_35.length b_35
theorem callee_limits_of {Pr : Program} {w : World} {K : PySem.W.Frag} {mg : Str → Option Value} {base : Heap} (m : Md Pr w K mg base) : Callee Pr w K mg base "limits_of" 1 3 F_limits_of := by
  obtain ⟨hm, fd, F⟩ := m.d_limits_of
  exact callee_by (M := Md) F fs_35 hm (F.bindsN (ps := ["many", "arrays", "rows"]) fun _ _ _ _ _ _ us hl => match us, hl with | [_, _, _], _ => rfl) rfl m (by decide +kernel) (by decide +kernel) body_35
/-! ### loops_by -/
def N_39 : List Str := ["rows", "at", "row"]
def L_39 : List (Str × Bool) := [("sorted", false), ("enumerate", false), ("rows", true)]
def W_39 : List Str := []
theorem fs_39 : FnScope N_39 ["rows"] sc_39 := ⟨rfl, rfl, rfl, by decide +kernel, rfl, by decide +kernel, by decide +kernel⟩
def b_39 : Sx := (sSeq (sRet (xBlt sortSetS [(rOf (xLc (iEnum (xVar 0)) [1, 2] (gT [(gV 1), (gV 2)]) (bOf (xCmp eqS (rOf (xIxA (rVar 2) (rOf (xC (.int 0))))) (rOf (xC (.str "again"))))) (xTup [(false, (xBin subP (rOf (xIxA (rVar 2) (rOf (xC (.int 1))))) (rOf (xC (.int 1))))), (false, (xVar 1))])))]))
    sNil)
theorem body_39 (X : Cx) (Q : QX X 0 N_39 L_39 W_39 sc_39) (es : X.env.scope = sc_39) (m : MX Md X) : PSs X (defBody s_39) (tS (gd X) b_39) := by
  have v_rows : ∀ {p : Pos}, PE X (.Name "rows" p) (tVar 0) := fun {p} => Q.n.var 0 2 rfl rfl
  exact (pS_cons (pS_ret (F_sorted Q.d Q.n 0 rfl m.f_sorted (rE (F_lc Q m [("at", 1), ("row", 2)] [1, 2] [("row", true), ("at", true)] ["at", "row"] rfl (I_enum Q.n 1 rfl m.f_enumerate (eV v_rows) True.intro) (by decide +kernel) (by decide +kernel) (by decide +kernel) (fun Y1 Q1 m1 => by
      have v_row_c1 : ∀ {p : Pos}, PE Y1 (.Name "row" p) (tVar 2) := fun {p} => Q1.n.var 2 0 rfl rfl
      have v_at_c1 : ∀ {p : Pos}, PE Y1 (.Name "at" p) (tVar 1) := fun {p} => Q1.n.var 1 1 rfl rfl
      exact ⟨(G_t Q1.d (.cons (G_v (by decide) (G_n Q1.d Q1.n Q1.w 1 0 rfl rfl)) True.intro (.cons (G_v (by decide) (G_n Q1.d Q1.n Q1.w 2 1 rfl rfl)) True.intro .nil))), (pTs_one (F_eq Q1.d (rE (F_ix Q1.d (rV v_row_c1) (rE kI) True.intro)) (rE kS)).c), (F_tup (.cons (F_sub (rE (F_ix Q1.d (rV v_row_c1) (rE kI) True.intro)) (rE kI)) True.intro (.cons (eV v_at_c1) True.intro .nil)))⟩) True.intro)) True.intro))
    pS_nil)
def F_loops_by : Fn := bodyFn 1 N_39.length b_39
theorem callee_loops_by {Pr : Program} {w : World} {K : PySem.W.Frag} {mg : Str → Option Value} {base : Heap} (m : Md Pr w K mg base) : Callee Pr w K mg base "loops_by" 1 1 F_loops_by := by
  obtain ⟨hm, fd, F⟩ := m.d_loops_by
  exact callee_by (M := Md) F fs_39 hm (F.bindsN (ps := ["rows"]) fun _ _ _ _ _ _ us hl => match us, hl with | [_], _ => rfl) rfl m (by decide +kernel) (by decide +kernel) body_39
/-! ### around_by -/
def N_40 : List Str := ["loops", "row", "first", "last"]
def L_40 : List (Str × Bool) := [("loops", true)]
def W_40 : List Str := []
theorem fs_40 : FnScope N_40 ["loops", "row"] sc_40 := ⟨rfl, rfl, rfl, by decide +kernel, rfl, by decide +kernel, by decide +kernel⟩
def b_40 : Sx := (sSeq (sRet (xLc (iSeq (xVar 0)) [2, 3] (gT [(gV 2), (gV 3)]) (bOf (xChain ltS leS (rVar 2) (rVar 1) (rVar 3))) (xVar 2)))
    sNil)
theorem body_40 (X : Cx) (Q : QX X 0 N_40 L_40 W_40 sc_40) (es : X.env.scope = sc_40) (m : MX Md X) : PSs X (defBody s_40) (tS (gd X) b_40) := by
  have v_loops : ∀ {p : Pos}, PE X (.Name "loops" p) (tVar 0) := fun {p} => Q.n.var 0 0 rfl rfl
  exact (pS_cons (pS_ret (F_lc Q m [("first", 2), ("last", 3)] [2, 3] [("first", true), ("row", true), ("last", true)] ["first", "last"] rfl (pI_seq (eV v_loops)) (by decide +kernel) (by decide +kernel) (by decide +kernel) (fun Y1 Q1 m1 => by
      have v_first_c1 : ∀ {p : Pos}, PE Y1 (.Name "first" p) (tVar 2) := fun {p} => Q1.n.var 2 0 rfl rfl
      have v_row_c1 : ∀ {p : Pos}, PE Y1 (.Name "row" p) (tVar 1) := fun {p} => Q1.n.var 1 1 rfl rfl
      have v_last_c1 : ∀ {p : Pos}, PE Y1 (.Name "last" p) (tVar 3) := fun {p} => Q1.n.var 3 2 rfl rfl
      exact ⟨(G_t Q1.d (.cons (G_v (by decide) (G_n Q1.d Q1.n Q1.w 2 0 rfl rfl)) True.intro (.cons (G_v (by decide) (G_n Q1.d Q1.n Q1.w 3 1 rfl rfl)) True.intro .nil))), (pTs_one (F_ltle Q1.d (rV v_first_c1) (rV v_row_c1) (rV v_last_c1)).c), (eV v_first_c1)⟩) True.intro))
    pS_nil)
def F_around_by : Fn := bodyFn 2 N_40.length b_40
theorem callee_around_by {Pr : Program} {w : World} {K : PySem.W.Frag} {mg : Str → Option Value} {base : Heap} (m : Md Pr w K mg base) : Callee Pr w K mg base "around_by" 1 2 F_around_by := by
  obtain ⟨hm, fd, F⟩ := m.d_around_by
  exact callee_by (M := Md) F fs_40 hm (F.bindsN (ps := ["loops", "row"]) fun _ _ _ _ _ _ us hl => match us, hl with | [_, _], _ => rfl) rfl m (by decide +kernel) (by decide +kernel) body_40
/-! ### is_apart -/
def N_41 : List Str := ["one", "other", "first", "last", "begin", "end"]
def L_41 : List (Str × Bool) := [("sorted", false), ("one", true), ("other", true), ("last", true), ("begin", true), ("first", true), ("end", true)]
def W_41 : List Str := ["first", "last", "begin", "end"]
theorem fs_41 : FnScope N_41 ["one", "other"] sc_41 := ⟨rfl, rfl, rfl, by decide +kernel, rfl, by decide +kernel, by decide +kernel⟩
def b_41 : Sx := (sSeq (sAsg (xBlt sortSetS [(rOf (xLst [(false, (xVar 0)), (false, (xVar 1))]))]) (gT [(gT [(gV 2), (gV 3)]), (gT [(gV 4), (gV 5)])]))
    (sSeq (sRet (xB (xOr [(xCmp ltS (rVar 3) (rVar 4)), (xB (xAnd [(xCmp ltS (rVar 2) (rVar 4)), (xCmp ltS (rVar 5) (rVar 3))]))])))
    sNil))
theorem body_41 (X : Cx) (Q : QX X 0 N_41 L_41 W_41 sc_41) (es : X.env.scope = sc_41) (m : MX Md X) : PSs X (defBody s_41) (tS (gd X) b_41) := by
  have v_one : ∀ {p : Pos}, PE X (.Name "one" p) (tVar 0) := fun {p} => Q.n.var 0 1 rfl rfl
  have v_other : ∀ {p : Pos}, PE X (.Name "other" p) (tVar 1) := fun {p} => Q.n.var 1 2 rfl rfl
  have v_last : ∀ {p : Pos}, PE X (.Name "last" p) (tVar 3) := fun {p} => Q.n.var 3 3 rfl rfl
  have v_begin : ∀ {p : Pos}, PE X (.Name "begin" p) (tVar 4) := fun {p} => Q.n.var 4 4 rfl rfl
  have v_first : ∀ {p : Pos}, PE X (.Name "first" p) (tVar 2) := fun {p} => Q.n.var 2 5 rfl rfl
  have v_end : ∀ {p : Pos}, PE X (.Name "end" p) (tVar 5) := fun {p} => Q.n.var 5 6 rfl rfl
  exact (pS_cons (S_asgN (vs := [2, 3, 4, 5]) (F_sorted Q.d Q.n 0 rfl m.f_sorted (rE (F_lst (.cons (eV v_one) True.intro (.cons (eV v_other) True.intro .nil)))) True.intro) (G_t Q.d (.cons (G_t Q.d (.cons (G_v (by decide) (G_n Q.d Q.n Q.w 2 0 rfl rfl)) True.intro (.cons (G_v (by decide) (G_n Q.d Q.n Q.w 3 1 rfl rfl)) True.intro .nil))) True.intro (.cons (G_t Q.d (.cons (G_v (by decide) (G_n Q.d Q.n Q.w 4 2 rfl rfl)) True.intro (.cons (G_v (by decide) (G_n Q.d Q.n Q.w 5 3 rfl rfl)) True.intro .nil))) True.intro .nil))) True.intro True.intro True.intro)
    (pS_cons (pS_ret (F_or (.cons (F_lt Q.d (rV v_last) (rV v_begin)).e (.cons (F_and (.cons (F_lt Q.d (rV v_first) (rV v_begin)).e (.cons (F_lt Q.d (rV v_end) (rV v_last)).e .nil))) .nil))))
    pS_nil))
def F_is_apart : Fn := bodyFn 2 N_41.length b_41
theorem callee_is_apart {Pr : Program} {w : World} {K : PySem.W.Frag} {mg : Str → Option Value} {base : Heap} (m : Md Pr w K mg base) : Callee Pr w K mg base "is_apart" 1 2 F_is_apart := by
  obtain ⟨hm, fd, F⟩ := m.d_is_apart
  exact callee_by (M := Md) F fs_41 hm (F.bindsN (ps := ["one", "other"]) fun _ _ _ _ _ _ us hl => match us, hl with | [_, _], _ => rfl) rfl m (by decide +kernel) (by decide +kernel) body_41
/-! ### ways_by -/
def N_48 : List Str := ["rows", "row", "word", "parts", "found"]
def L_48 : List (Str × Bool) := [("rows", true), ("row", true), ("word", true), ("parts", true), ("found", true), ("sorted", false)]
def W_48 : List Str := ["word", "parts", "found"]
theorem fs_48 : FnScope N_48 ["rows", "row"] sc_48 := ⟨rfl, rfl, rfl, by decide +kernel, rfl, by decide +kernel, by decide +kernel⟩
def b_48 : Sx := (sSeq (sAsg (xIxA (rVar 0) (rVar 1)) (gStar 2 3))
    (sSeq (sIf (bOf (xCmp eqS (rVar 2) (rOf (xC (.str "end")))))
    (sSeq (sRet (xLst []))
    sNil)
    sNil)
    (sSeq (sIf (bOf (xCmp eqS (rVar 2) (rOf (xC (.str "go")))))
    (sSeq (sRetV 3)
    sNil)
    sNil)
    (sSeq (sSet 4 (xSet1 (xBin addP (rVar 1) (rOf (xC (.int 1))))))
    (sSeq (sIf (bOr [(bOf (xCmp eqS (rVar 2) (rOf (xC (.str "test"))))), (bAnd [(bOf (xCmp eqS (rVar 2) (rOf (xC (.str "again"))))), (bOf (xCmp neS (rOf (xIxA (rOf (xIxA (rVar 0) (rOf (xBin subP (rOf (xIxA (rVar 3) (rOf (xC (.int 0))))) (rOf (xC (.int 1))))))) (rOf (xC (.int 1))))) (rOf (xC (.int 1)))))])])
    (sSeq (sAdd 4 (rOf (xIxA (rVar 3) (rOf (xNeg (rOf (xC (.int 1))))))))
    sNil)
    sNil)
    (sSeq (sRet (xBlt sortSetS [(rVar 4)]))
    sNil))))))
theorem body_48 (X : Cx) (Q : QX X 0 N_48 L_48 W_48 sc_48) (es : X.env.scope = sc_48) (m : MX Md X) : PSs X (defBody s_48) (tS (gd X) b_48) := by
  have v_rows : ∀ {p : Pos}, PE X (.Name "rows" p) (tVar 0) := fun {p} => Q.n.var 0 0 rfl rfl
  have v_row : ∀ {p : Pos}, PE X (.Name "row" p) (tVar 1) := fun {p} => Q.n.var 1 1 rfl rfl
  have v_word : ∀ {p : Pos}, PE X (.Name "word" p) (tVar 2) := fun {p} => Q.n.var 2 2 rfl rfl
  have v_parts : ∀ {p : Pos}, PE X (.Name "parts" p) (tVar 3) := fun {p} => Q.n.var 3 3 rfl rfl
  have v_found : ∀ {p : Pos}, PE X (.Name "found" p) (tVar 4) := fun {p} => Q.n.var 4 4 rfl rfl
  exact (pS_cons (S_asgN (vs := [2, 3]) (F_ix Q.d (rV v_rows) (rV v_row) True.intro) (G_star Q.d (G_n Q.d Q.n Q.w 2 0 rfl rfl) (G_n Q.d Q.n Q.w 3 1 rfl rfl) (by decide) (by decide)) True.intro True.intro True.intro)
    (pS_cons (pS_if (F_eq Q.d (rV v_word) (rE kS)).c
    (pS_cons (pS_ret (F_lst .nil))
    pS_nil)
    pS_nil)
    (pS_cons (pS_if (F_eq Q.d (rV v_word) (rE kS)).c
    (pS_cons (pS_retV v_parts)
    pS_nil)
    pS_nil)
    (pS_cons (S_set Q.d Q.n Q.w 4 2 rfl rfl (pE_set1 Q.d.kds (F_add (rV v_row) (rE kI)) rfl) True.intro)
    (pS_cons (pS_if (T_or (.cons (F_eq Q.d (rV v_word) (rE kS)).c (.cons (T_and (.cons (F_eq Q.d (rV v_word) (rE kS)).c (.cons (F_ne Q.d (rE (F_ix Q.d (rE (F_ix Q.d (rV v_rows) (rE (F_sub (rE (F_ix Q.d (rV v_parts) (rE kI) True.intro)) (rE kI))) True.intro)) (rE kI) True.intro)) (rE kI)).c .nil))) .nil)))
    (pS_cons (S_add v_found (rE (F_ix Q.d (rV v_parts) (rE (pE_neg (rE kI))) True.intro)) True.intro rfl)
    pS_nil)
    pS_nil)
    (pS_cons (pS_ret (F_sorted Q.d Q.n 5 rfl m.f_sorted (rV v_found) True.intro))
    pS_nil))))))
def F_ways_by : Fn := bodyFn 2 N_48.length b_48
theorem callee_ways_by {Pr : Program} {w : World} {K : PySem.W.Frag} {mg : Str → Option Value} {base : Heap} (m : Md Pr w K mg base) : Callee Pr w K mg base "ways_by" 1 2 F_ways_by := by
  obtain ⟨hm, fd, F⟩ := m.d_ways_by
  exact callee_by (M := Md) F fs_48 hm (F.bindsN (ps := ["rows", "row"]) fun _ _ _ _ _ _ us hl => match us, hl with | [_, _], _ => rfl) rfl m (by decide +kernel) (by decide +kernel) body_48
/-! ### gives_by -/
def N_49 : List Str := ["row"]
def L_49 : List (Str × Bool) := [("row", true), ("WITHOUT", false)]
def W_49 : List Str := []
theorem fs_49 : FnScope N_49 ["row"] sc_49 := ⟨rfl, rfl, rfl, by decide +kernel, rfl, by decide +kernel, by decide +kernel⟩
def b_49 : Sx := (sSeq (sRet (xIf (bOf (xCmp (inS false) (rOf (xIxA (rVar 0) (rOf (xC (.int 0))))) (rOf (xC P_WITHOUT)))) (xC (.none)) (xIxA (rVar 0) (rOf (xC (.int 1))))))
    sNil)
theorem body_49 (X : Cx) (Q : QX X 0 N_49 L_49 W_49 sc_49) (es : X.env.scope = sc_49) (m : MX Md X) : PSs X (defBody s_49) (tS (gd X) b_49) := by
  have v_row : ∀ {p : Pos}, PE X (.Name "row" p) (tVar 0) := fun {p} => Q.n.var 0 0 rfl rfl
  have g_WITHOUT : ∀ {p : Pos}, PE X (.Name "WITHOUT" p) (tC (V_WITHOUT X.K)) := fun {p} => Q.n.con 1 rfl m.c_WITHOUT
  exact (pS_cons (pS_ret (pE_if (F_in Q.d (rE (F_ix Q.d (rV v_row) (rE kI) True.intro)) (rE (eCk _ g_WITHOUT m.r_WITHOUT)) True.intro).c kN (F_ix Q.d (rV v_row) (rE kI) True.intro)))
    pS_nil)
def F_gives_by : Fn := bodyFn 1 N_49.length b_49
theorem callee_gives_by {Pr : Program} {w : World} {K : PySem.W.Frag} {mg : Str → Option Value} {base : Heap} (m : Md Pr w K mg base) : Callee Pr w K mg base "gives_by" 1 1 F_gives_by := by
  obtain ⟨hm, fd, F⟩ := m.d_gives_by
  exact callee_by (M := Md) F fs_49 hm (F.bindsN (ps := ["row"]) fun _ _ _ _ _ _ us hl => match us, hl with | [_], _ => rfl) rfl m (by decide +kernel) (by decide +kernel) body_49
/-! ### is_whole -/
def N_58 : List Str := ["thing", "least", "most"]
def L_58 : List (Str × Bool) := [("isinstance", false), ("thing", true), ("int", false), ("bool", false), ("least", true), ("most", true)]
def W_58 : List Str := []
theorem fs_58 : FnScope N_58 ["thing", "least", "most"] sc_58 := ⟨rfl, rfl, rfl, by decide +kernel, rfl, by decide +kernel, by decide +kernel⟩
def b_58 : Sx := (sSeq (sRet (xB (xAnd [(xIsi "int" (rVar 0)), (xB (bNot (bOf (xIsi "bool" (rVar 0))))), (xChain leS leS (rVar 1) (rVar 0) (rVar 2))])))
    sNil)
theorem body_58 (X : Cx) (Q : QX X 0 N_58 L_58 W_58 sc_58) (es : X.env.scope = sc_58) (m : MX Md X) : PSs X (defBody s_58) (tS (gd X) b_58) := by
  have v_thing : ∀ {p : Pos}, PE X (.Name "thing" p) (tVar 0) := fun {p} => Q.n.var 0 1 rfl rfl
  have v_least : ∀ {p : Pos}, PE X (.Name "least" p) (tVar 1) := fun {p} => Q.n.var 1 4 rfl rfl
  have v_most : ∀ {p : Pos}, PE X (.Name "most" p) (tVar 2) := fun {p} => Q.n.var 2 5 rfl rfl
  exact (pS_cons (pS_ret (F_and (.cons (F_isi Q.n 0 2 rfl m.f_isinstance rfl m.f_int bb_int nn_int (rV v_thing) True.intro) (.cons (pE_not (F_isi Q.n 0 3 rfl m.f_isinstance rfl m.f_bool bb_bool nn_bool (rV v_thing) True.intro)) (.cons (F_lele (rV v_least) (rV v_thing) (rV v_most)).e .nil)))))
    pS_nil)
def F_is_whole_terms : Fn := bodyFn 3 N_58.length b_58
def gS_is_whole_terms : List SV → List SV → List SV := fun ss zs => ss ++ [.d (.int 0)] ++ zs
theorem calleeK_is_whole_terms {Pr : Program} {w : World} {K : PySem.W.Frag} {mg : Str → Option Value} {base : Heap} (m : Md Pr w K mg base) : CalleeK Pr w K mg base "is_whole_terms" 1 1 ["most"] 3 gS_is_whole_terms F_is_whole_terms := by
  obtain ⟨hm, fd, F⟩ := m.d_is_whole_terms
  obtain ⟨mv, hb⟩ := F.kbinds0 (ps := ["thing", "least", "most"]) 1 ["most"] [("least", .int 0)] (fun us mv ws => us ++ mv ++ ws) (by simp) (by simp) (fun h1 h2 h3 => (h1.append h2).append h3) (fun D doc pm an cdv ct us mv ws l1 l2 l3 => match us, l1, mv, l2, ws, l3 with | [_], _, [_], _, [_], _ => ⟨_, _, _, _, _, _, rfl, rfl, rfl⟩)
  exact ⟨_, fd, _, _, _, hm, F.kp, hb, fun vs zs a b => (by simp [a, b]), fun G H hs O ss vs zs ws h1 h2 => repL_app (repL_app h1 repL_int) h2, fnOk_of (M := Md) F fs_58 rfl m (by decide +kernel) (by decide +kernel) body_58⟩
/-! ### is_op -/
def N_61 : List Str := ["thing"]
def L_61 : List (Str × Bool) := [("isinstance", false), ("thing", true), ("str", false), ("OPS", false)]
def W_61 : List Str := []
theorem fs_61 : FnScope N_61 ["thing"] sc_61 := ⟨rfl, rfl, rfl, by decide +kernel, rfl, by decide +kernel, by decide +kernel⟩
def b_61 : Sx := (sSeq (sRet (xB (xAnd [(xIsi "str" (rVar 0)), (xKIn false T_OPS (rVar 0))])))
    sNil)
theorem body_61 (X : Cx) (Q : QX X 0 N_61 L_61 W_61 sc_61) (es : X.env.scope = sc_61) (m : MX Md X) : PSs X (defBody s_61) (tS (gd X) b_61) := by
  have v_thing : ∀ {p : Pos}, PE X (.Name "thing" p) (tVar 0) := fun {p} => Q.n.var 0 1 rfl rfl
  have g_OPS : ∀ {p : Pos}, PE X (.Name "OPS" p) (tC (V_OPS X.K)) := fun {p} => Q.n.con 3 rfl m.c_OPS
  exact (pS_cons (pS_ret (F_and (.cons (F_isi Q.n 0 2 rfl m.f_isinstance rfl m.f_str bb_str nn_str (rV v_thing) True.intro) (.cons (F_kin m.t_OPS g_OPS (rV v_thing) True.intro).e .nil))))
    pS_nil)
def F_is_op : Fn := bodyFn 1 N_61.length b_61
theorem callee_is_op {Pr : Program} {w : World} {K : PySem.W.Frag} {mg : Str → Option Value} {base : Heap} (m : Md Pr w K mg base) : Callee Pr w K mg base "is_op" 1 1 F_is_op := by
  obtain ⟨hm, fd, F⟩ := m.d_is_op
  exact callee_by (M := Md) F fs_61 hm (F.bindsN (ps := ["thing"]) fun _ _ _ _ _ _ us hl => match us, hl with | [_], _ => rfl) rfl m (by decide +kernel) (by decide +kernel) body_61
/-! ### need_few -/
def N_67 : List Str := ["asks", "many", "low", "high"]
def L_67 : List (Str × Bool) := [("asks", true), ("high", true), ("low", true), ("many", true), ("INPUTS", false), ("TooWide", false)]
def W_67 : List Str := ["many", "low", "high"]
theorem fs_67 : FnScope N_67 ["asks"] sc_67 := ⟨rfl, rfl, rfl, by decide +kernel, rfl, by decide +kernel, by decide +kernel⟩
def b_67 : SxX := (seqX (lift (sSet 1 (xC (.int 1))))
    (seqX (lift (sFor (iSeq (xVar 0)) (gT [(gV 2), (gV 3)])
    (sSeq (sAugM 1 (rOf (xBin addP (rOf (xBin subP (rVar 3) (rVar 2))) (rOf (xC (.int 1))))))
    sNil)))
    (seqX (ifX (bOf (xCmp gtS (rVar 1) (rOf (xC (.int 400)))))
    (seqX (sRs "TooWide")
    (lift sNil))
    (lift sNil))
    (lift sNil))))
theorem body_67 (X : Cx) (E : WX) (tk : Takes X E) (Q : QX X 0 N_67 L_67 W_67 sc_67) (es : X.env.scope = sc_67) (m : MX Md X) : PSs X (defBody s_67) (tX (gd X) E b_67) := by
  have v_asks : ∀ {p : Pos}, PE X (.Name "asks" p) (tVar 0) := fun {p} => Q.n.var 0 0 rfl rfl
  have v_high : ∀ {p : Pos}, PE X (.Name "high" p) (tVar 3) := fun {p} => Q.n.var 3 1 rfl rfl
  have v_low : ∀ {p : Pos}, PE X (.Name "low" p) (tVar 2) := fun {p} => Q.n.var 2 2 rfl rfl
  have v_many : ∀ {p : Pos}, PE X (.Name "many" p) (tVar 1) := fun {p} => Q.n.var 1 3 rfl rfl
  have g_INPUTS : ∀ {p : Pos}, PE X (.Name "INPUTS" p) (tC (V_INPUTS X.K)) := fun {p} => Q.n.con 4 rfl m.c_INPUTS
  exact (pX_cons (pX_lift (S_set Q.d Q.n Q.w 1 0 rfl rfl kI True.intro))
    (pX_cons (pX_lift (S_for (vs := [2, 3]) Q.d (pI_seq (eV v_asks)) (G_t Q.d (.cons (G_v (by decide) (G_n Q.d Q.n Q.w 2 1 rfl rfl)) True.intro (.cons (G_v (by decide) (G_n Q.d Q.n Q.w 3 2 rfl rfl)) True.intro .nil)))
    (pS_cons (S_augM Q.d Q.n Q.w 1 0 rfl rfl (rE (F_add (rE (F_sub (rV v_high) (rV v_low))) (rE kI))))
    pS_nil) True.intro))
    (pX_cons (pX_if (F_gt (rV v_many) (rE (eC _ g_INPUTS rp_int))).c
    (pX_cons (X_raise0 Q.d Q.n tk 5 rfl m.e_TooWide)
    (pXs_lift pS_nil))
    (pXs_lift pS_nil))
    (pXs_lift pS_nil))))
def F_need_few : FnX := bodyX 1 N_67.length b_67
theorem callee_need_few {Pr : Program} {w : World} {K : PySem.W.Frag} {mg : Str → Option Value} {base : Heap} (m : Md Pr w K mg base) : CalleeX Pr w K mg base "need_few" 1 1 F_need_few := by
  obtain ⟨hm, fd, F⟩ := m.d_need_few
  exact calleeX_by (M := Md) F fs_67 hm (F.bindsN (ps := ["asks"]) fun _ _ _ _ _ _ us hl => match us, hl with | [_], _ => rfl) rfl m (by decide +kernel) (by decide +kernel) body_67
def F_need_few_rt : Fn := rtFn F_need_few
theorem callee_need_few_rt {Pr : Program} {w : World} {K : PySem.W.Frag} {mg : Str → Option Value} {base : Heap} (m : Md Pr w K mg base) : Callee Pr w K mg base "need_few" 1 1 F_need_few_rt := (callee_need_few m).rt
/-! ### is_single -/
def N_82 : List Str := ["span"]
def L_82 : List (Str × Bool) := [("span", true)]
def W_82 : List Str := []
theorem fs_82 : FnScope N_82 ["span"] sc_82 := ⟨rfl, rfl, rfl, by decide +kernel, rfl, by decide +kernel, by decide +kernel⟩
def b_82 : Sx := (sSeq (sRet (xCmp eqS (rOf (xIxA (rVar 0) (rOf (xC (.int 0))))) (rOf (xIxA (rVar 0) (rOf (xC (.int 1)))))))
    sNil)
theorem body_82 (X : Cx) (Q : QX X 0 N_82 L_82 W_82 sc_82) (es : X.env.scope = sc_82) (m : MX Md X) : PSs X (defBody s_82) (tS (gd X) b_82) := by
  have v_span : ∀ {p : Pos}, PE X (.Name "span" p) (tVar 0) := fun {p} => Q.n.var 0 0 rfl rfl
  exact (pS_cons (pS_ret (F_eq Q.d (rE (F_ix Q.d (rV v_span) (rE kI) True.intro)) (rE (F_ix Q.d (rV v_span) (rE kI) True.intro))).e)
    pS_nil)
/-! ### joined_span -/
def N_83 : List Str := ["one", "other"]
def L_83 : List (Str × Bool) := [("min", false), ("one", true), ("other", true), ("max", false)]
def W_83 : List Str := []
theorem fs_83 : FnScope N_83 ["one", "other"] sc_83 := ⟨rfl, rfl, rfl, by decide +kernel, rfl, by decide +kernel, by decide +kernel⟩
def b_83 : Sx := (sSeq (sRet (xTup [(false, (xBlt min2S [(rOf (xIxA (rVar 0) (rOf (xC (.int 0))))), (rOf (xIxA (rVar 1) (rOf (xC (.int 0)))))])), (false, (xBlt max2S [(rOf (xIxA (rVar 0) (rOf (xC (.int 1))))), (rOf (xIxA (rVar 1) (rOf (xC (.int 1)))))]))]))
    sNil)
theorem body_83 (X : Cx) (Q : QX X 0 N_83 L_83 W_83 sc_83) (es : X.env.scope = sc_83) (m : MX Md X) : PSs X (defBody s_83) (tS (gd X) b_83) := by
  have v_one : ∀ {p : Pos}, PE X (.Name "one" p) (tVar 0) := fun {p} => Q.n.var 0 1 rfl rfl
  have v_other : ∀ {p : Pos}, PE X (.Name "other" p) (tVar 1) := fun {p} => Q.n.var 1 2 rfl rfl
  exact (pS_cons (pS_ret (F_tup (.cons (F_min2 Q.d Q.n 0 rfl m.f_min (rE (F_ix Q.d (rV v_one) (rE kI) True.intro)) True.intro (rE (F_ix Q.d (rV v_other) (rE kI) True.intro)) True.intro) True.intro (.cons (F_max2 Q.d Q.n 3 rfl m.f_max (rE (F_ix Q.d (rV v_one) (rE kI) True.intro)) True.intro (rE (F_ix Q.d (rV v_other) (rE kI) True.intro)) True.intro) True.intro .nil))))
    pS_nil)
def F_joined_span : Fn := bodyFn 2 N_83.length b_83
theorem callee_joined_span {Pr : Program} {w : World} {K : PySem.W.Frag} {mg : Str → Option Value} {base : Heap} (m : Md Pr w K mg base) : Callee Pr w K mg base "joined_span" 1 2 F_joined_span := by
  obtain ⟨hm, fd, F⟩ := m.d_joined_span
  exact callee_by (M := Md) F fs_83 hm (F.bindsN (ps := ["one", "other"]) fun _ _ _ _ _ _ us hl => match us, hl with | [_, _], _ => rfl) rfl m (by decide +kernel) (by decide +kernel) body_83
/-! ### does_lie -/
def N_84 : List Str := ["one", "other"]
def L_84 : List (Str × Bool) := [("other", true), ("one", true)]
def W_84 : List Str := []
theorem fs_84 : FnScope N_84 ["one", "other"] sc_84 := ⟨rfl, rfl, rfl, by decide +kernel, rfl, by decide +kernel, by decide +kernel⟩
def b_84 : Sx := (sSeq (sRet (xB (xAnd [(xCmp leS (rOf (xIxA (rVar 1) (rOf (xC (.int 0))))) (rOf (xIxA (rVar 0) (rOf (xC (.int 0)))))), (xCmp leS (rOf (xIxA (rVar 0) (rOf (xC (.int 1))))) (rOf (xIxA (rVar 1) (rOf (xC (.int 1))))))])))
    sNil)
theorem body_84 (X : Cx) (Q : QX X 0 N_84 L_84 W_84 sc_84) (es : X.env.scope = sc_84) (m : MX Md X) : PSs X (defBody s_84) (tS (gd X) b_84) := by
  have v_other : ∀ {p : Pos}, PE X (.Name "other" p) (tVar 1) := fun {p} => Q.n.var 1 0 rfl rfl
  have v_one : ∀ {p : Pos}, PE X (.Name "one" p) (tVar 0) := fun {p} => Q.n.var 0 1 rfl rfl
  exact (pS_cons (pS_ret (F_and (.cons (F_le (rE (F_ix Q.d (rV v_other) (rE kI) True.intro)) (rE (F_ix Q.d (rV v_one) (rE kI) True.intro))).e (.cons (F_le (rE (F_ix Q.d (rV v_one) (rE kI) True.intro)) (rE (F_ix Q.d (rV v_other) (rE kI) True.intro))).e .nil))))
    pS_nil)
def F_does_lie : Fn := bodyFn 2 N_84.length b_84
theorem callee_does_lie {Pr : Program} {w : World} {K : PySem.W.Frag} {mg : Str → Option Value} {base : Heap} (m : Md Pr w K mg base) : Callee Pr w K mg base "does_lie" 1 2 F_does_lie := by
  obtain ⟨hm, fd, F⟩ := m.d_does_lie
  exact callee_by (M := Md) F fs_84 hm (F.bindsN (ps := ["one", "other"]) fun _ _ _ _ _ _ us hl => match us, hl with | [_, _], _ => rfl) rfl m (by decide +kernel) (by decide +kernel) body_84
/-! ### begin_standing -/
def N_87 : List Str := ["code", "asks", "many", "shown", "arrays", "rows", "ask"]
def L_87 : List (Str × Bool) := [("code", true), ("tuple", false), ("asks", true), ("NOUGHT", false), ("many", true), ("len", false), ("arrays", true)]
def W_87 : List Str := ["asks", "many", "shown", "arrays", "rows"]
theorem fs_87 : FnScope N_87 ["code"] sc_87 := ⟨rfl, rfl, rfl, by decide +kernel, rfl, by decide +kernel, by decide +kernel⟩
def b_87 : Sx := (sSeq (sAsg (xVar 0) (gT [(gV 1), (gV 2), (gV 3), (gV 4), (gV 5)]))
    (sSeq (sRet (xTup [(false, (xBin addP (rOf (xBlt tupS [(rOf (xLc (iSeq (xVar 1)) [6] (gV 6) bYes (xBlt tupS [(rVar 6)])))])) (rOf (xBin mulP (rOf (xTup [(false, (xC P_NOUGHT))])) (rOf (xBin subP (rVar 2) (rOf (xBlt lenS [(rVar 1)])))))))), (false, (xBin mulP (rOf (xTup [(false, (xC P_NOUGHT))])) (rOf (xBlt lenS [(rVar 4)]))))]))
    sNil))
theorem body_87 (X : Cx) (Q : QX X 0 N_87 L_87 W_87 sc_87) (es : X.env.scope = sc_87) (m : MX Md X) : PSs X (defBody s_87) (tS (gd X) b_87) := by
  have v_code : ∀ {p : Pos}, PE X (.Name "code" p) (tVar 0) := fun {p} => Q.n.var 0 0 rfl rfl
  have v_asks : ∀ {p : Pos}, PE X (.Name "asks" p) (tVar 1) := fun {p} => Q.n.var 1 2 rfl rfl
  have g_NOUGHT : ∀ {p : Pos}, PE X (.Name "NOUGHT" p) (tC (V_NOUGHT X.K)) := fun {p} => Q.n.con 3 rfl m.c_NOUGHT
  have v_many : ∀ {p : Pos}, PE X (.Name "many" p) (tVar 2) := fun {p} => Q.n.var 2 4 rfl rfl
  have v_arrays : ∀ {p : Pos}, PE X (.Name "arrays" p) (tVar 4) := fun {p} => Q.n.var 4 6 rfl rfl
  exact (pS_cons (S_asgN (vs := [1, 2, 3, 4, 5]) (eV v_code) (G_t Q.d (.cons (G_v (by decide) (G_n Q.d Q.n Q.w 1 0 rfl rfl)) True.intro (.cons (G_v (by decide) (G_n Q.d Q.n Q.w 2 1 rfl rfl)) True.intro (.cons (G_v (by decide) (G_n Q.d Q.n Q.w 3 2 rfl rfl)) True.intro (.cons (G_v (by decide) (G_n Q.d Q.n Q.w 4 3 rfl rfl)) True.intro (.cons (G_v (by decide) (G_n Q.d Q.n Q.w 5 4 rfl rfl)) True.intro .nil)))))) True.intro True.intro True.intro)
    (pS_cons (pS_ret (F_tup (.cons (F_add (rE (F_tuple Q.n 1 rfl m.f_tuple (rE (F_lc Q m [("ask", 6)] [6] [("tuple", false), ("ask", true)] ["ask"] rfl (pI_seq (eV v_asks)) (by decide +kernel) (by decide +kernel) (by decide +kernel) (fun Y1 Q1 m1 => by
      have v_ask_c1 : ∀ {p : Pos}, PE Y1 (.Name "ask" p) (tVar 6) := fun {p} => Q1.n.var 6 1 rfl rfl
      exact ⟨(G_v (by decide) (G_n Q1.d Q1.n Q1.w 6 0 rfl rfl)), pTs_nil, (F_tuple Q1.n 0 rfl m1.f_tuple (rV v_ask_c1) True.intro)⟩) True.intro)) True.intro)) (rE (F_mul (rE (F_tup (.cons (eCk _ g_NOUGHT m.r_NOUGHT) True.intro .nil))) (rE (F_sub (rV v_many) (rE (F_len Q.n 5 rfl m.f_len (rV v_asks) True.intro))))))) True.intro (.cons (F_mul (rE (F_tup (.cons (eCk _ g_NOUGHT m.r_NOUGHT) True.intro .nil))) (rE (F_len Q.n 5 rfl m.f_len (rV v_arrays) True.intro))) True.intro .nil))))
    pS_nil))
def F_begin_standing : Fn := bodyFn 1 N_87.length b_87
theorem callee_begin_standing {Pr : Program} {w : World} {K : PySem.W.Frag} {mg : Str → Option Value} {base : Heap} (m : Md Pr w K mg base) : Callee Pr w K mg base "begin_standing" 1 1 F_begin_standing := by
  obtain ⟨hm, fd, F⟩ := m.d_begin_standing
  exact callee_by (M := Md) F fs_87 hm (F.bindsN (ps := ["code"]) fun _ _ _ _ _ _ us hl => match us, hl with | [_], _ => rfl) rfl m (by decide +kernel) (by decide +kernel) body_87
/-! ### with_span -/
def N_88 : List Str := ["spans", "place", "span"]
def L_88 : List (Str × Bool) := [("spans", true), ("place", true), ("span", true)]
def W_88 : List Str := []
theorem fs_88 : FnScope N_88 ["spans", "place", "span"] sc_88 := ⟨rfl, rfl, rfl, by decide +kernel, rfl, by decide +kernel, by decide +kernel⟩
def b_88 : Sx := (sSeq (sRet (xBin addP (rOf (xBin addP (rOf (xSl (rVar 0) none (some (rVar 1)))) (rOf (xTup [(false, (xVar 2))])))) (rOf (xSl (rVar 0) (some (rOf (xBin addP (rVar 1) (rOf (xC (.int 1)))))) none))))
    sNil)
theorem body_88 (X : Cx) (Q : QX X 0 N_88 L_88 W_88 sc_88) (es : X.env.scope = sc_88) (m : MX Md X) : PSs X (defBody s_88) (tS (gd X) b_88) := by
  have v_spans : ∀ {p : Pos}, PE X (.Name "spans" p) (tVar 0) := fun {p} => Q.n.var 0 0 rfl rfl
  have v_place : ∀ {p : Pos}, PE X (.Name "place" p) (tVar 1) := fun {p} => Q.n.var 1 1 rfl rfl
  have v_span : ∀ {p : Pos}, PE X (.Name "span" p) (tVar 2) := fun {p} => Q.n.var 2 2 rfl rfl
  exact (pS_cons (pS_ret (F_add (rE (F_add (rE (pE_sl (rV v_spans) pO_none (pO_some (rV v_place)))) (rE (F_tup (.cons (eV v_span) True.intro .nil))))) (rE (pE_sl (rV v_spans) (pO_some (rE (F_add (rV v_place) (rE kI)))) pO_none))))
    pS_nil)
def F_with_span : Fn := bodyFn 3 N_88.length b_88
theorem callee_with_span {Pr : Program} {w : World} {K : PySem.W.Frag} {mg : Str → Option Value} {base : Heap} (m : Md Pr w K mg base) : Callee Pr w K mg base "with_span" 1 3 F_with_span := by
  obtain ⟨hm, fd, F⟩ := m.d_with_span
  exact callee_by (M := Md) F fs_88 hm (F.bindsN (ps := ["spans", "place", "span"]) fun _ _ _ _ _ _ us hl => match us, hl with | [_, _, _], _ => rfl) rfl m (by decide +kernel) (by decide +kernel) body_88
/-! ### _law_tin -/
def N_113 : List Str := ["script", "spot", "cell", "great", "mixed"]
def L_113 : List (Str × Bool) := [("spot", true), ("len", false), ("script", true), ("int", false), ("abs", false), ("cell", true), ("great", true), ("max", false), ("mixed", true)]
def W_113 : List Str := ["cell", "great", "mixed"]
theorem fs_113 : FnScope N_113 ["script", "spot"] sc_113 := ⟨rfl, rfl, rfl, by decide +kernel, rfl, by decide +kernel, by decide +kernel⟩
def b_113_0 : Sx := (sSet 2 (xIf (bOf (xCmp ltS (rVar 1) (rOf (xBlt lenS [(rVar 0)])))) (xBlt intS [(rOf (xIxA (rVar 0) (rVar 1)))]) (xBin addP (rOf (xBin mulP (rOf (xC (.int 1049))) (rVar 1))) (rOf (xC (.int 137))))))
def b_113_1 : Sx := (sSet 3 (xBin modP (rOf (xBlt intS [(rOf (xBlt absS [(rVar 2)]))])) (rOf (xBin powP (rOf (xBin powP (rOf (xC (.int 10))) (rOf (xC (.int 42))))) (rOf (xC (.int 6)))))))
def b_113_2 : Sx := (sSet 4 (xBin addP (rOf (xBin addP (rOf (xBin addP (rOf (xBin mulP (rOf (xBin modP (rOf (xBlt intS [(rVar 3)])) (rOf (xC (.int 2305843009213693907))))) (rOf (xC (.int 167))))) (rOf (xBin mulP (rOf (xC (.int 1187))) (rVar 1))))) (rOf (xBin mulP (rOf (xC (.int 103))) (rOf (xBlt intS [(rOf (xCmp ltS (rVar 2) (rOf (xC (.int 0)))))])))))) (rOf (xC (.int 73)))))
def b_113_3 : Sx := (sRet (xLst [(false, (xBlt max2S [(rOf (xC (.int 0))), (rOf (xBin subP (rVar 3) (rOf (xBin powP (rOf (xC (.int 10))) (rOf (xC (.int 17)))))))])), (false, (xVar 4)), (false, (xC (.int 0)))]))
def b_113 : Sx := (sSeq b_113_0
    (sSeq b_113_1
    (sSeq b_113_2
    (sSeq b_113_3
    sNil))))
theorem body_113 (X : Cx) (Q : QX X 0 N_113 L_113 W_113 sc_113) (es : X.env.scope = sc_113) (m : MX Md X) : PSs X (defBody s_113) (tS (gd X) b_113) := by
  have v_spot : ∀ {p : Pos}, PE X (.Name "spot" p) (tVar 1) := fun {p} => Q.n.var 1 0 rfl rfl
  have v_script : ∀ {p : Pos}, PE X (.Name "script" p) (tVar 0) := fun {p} => Q.n.var 0 2 rfl rfl
  have v_cell : ∀ {p : Pos}, PE X (.Name "cell" p) (tVar 2) := fun {p} => Q.n.var 2 5 rfl rfl
  have v_great : ∀ {p : Pos}, PE X (.Name "great" p) (tVar 3) := fun {p} => Q.n.var 3 6 rfl rfl
  have v_mixed : ∀ {p : Pos}, PE X (.Name "mixed" p) (tVar 4) := fun {p} => Q.n.var 4 8 rfl rfl
  exact (pS_cons (S_set Q.d Q.n Q.w 2 0 rfl rfl (pE_if (F_lt Q.d (rV v_spot) (rE (F_len Q.n 1 rfl m.f_len (rV v_script) True.intro))).c (F_int Q.n 3 rfl m.f_int (rE (F_ix Q.d (rV v_script) (rV v_spot) True.intro)) True.intro) (F_add (rE (F_mul (rE kI) (rV v_spot))) (rE kI))) True.intro)
    (pS_cons (S_set Q.d Q.n Q.w 3 1 rfl rfl (F_mod (rE (F_int Q.n 3 rfl m.f_int (rE (F_abs Q.n 4 rfl m.f_abs (rV v_cell) True.intro)) True.intro)) (rE (F_pow (rE (F_pow (rE kI) (rE kI))) (rE kI)))) True.intro)
    (pS_cons (S_set Q.d Q.n Q.w 4 2 rfl rfl (F_add (rE (F_add (rE (F_add (rE (F_mul (rE (F_mod (rE (F_int Q.n 3 rfl m.f_int (rV v_great) True.intro)) (rE kI))) (rE kI))) (rE (F_mul (rE kI) (rV v_spot))))) (rE (F_mul (rE kI) (rE (F_int Q.n 3 rfl m.f_int (rE (F_lt Q.d (rV v_cell) (rE kI)).e) True.intro)))))) (rE kI)) True.intro)
    (pS_cons (pS_ret (F_lst (.cons (F_max2 Q.d Q.n 7 rfl m.f_max (rE kI) True.intro (rE (F_sub (rV v_great) (rE (F_pow (rE kI) (rE kI))))) True.intro) True.intro (.cons (eV v_mixed) True.intro (.cons kI True.intro .nil)))))
    pS_nil))))
def F__law_tin : Fn := bodyFn 2 N_113.length b_113
theorem callee__law_tin {Pr : Program} {w : World} {K : PySem.W.Frag} {mg : Str → Option Value} {base : Heap} (m : Md Pr w K mg base) : Callee Pr w K mg base "_law_tin" 1 2 F__law_tin := by
  obtain ⟨hm, fd, F⟩ := m.d__law_tin
  exact callee_by (M := Md) F fs_113 hm (F.bindsN (ps := ["script", "spot"]) fun _ _ _ _ _ _ us hl => match us, hl with | [_, _], _ => rfl) rfl m (by decide +kernel) (by decide +kernel) body_113
/-! ### _law_dealt -/
def N_114 : List Str := ["tin", "total", "found", "one", "two"]
def L_114 : List (Str × Bool) := [("tin", true), ("int", false), ("total", true), ("found", true), ("one", true), ("two", true)]
def W_114 : List Str := ["found", "one", "two"]
theorem fs_114 : FnScope N_114 ["tin", "total"] sc_114 := ⟨rfl, rfl, rfl, by decide +kernel, rfl, by decide +kernel, by decide +kernel⟩
def b_114 : Sx := (sSeq (sIf (bOf (xCmp gtS (rOf (xIxA (rVar 0) (rOf (xC (.int 0))))) (rOf (xC (.int 0)))))
    (sSeq (sSet 2 (xBin modP (rOf (xBlt intS [(rOf (xIxA (rVar 0) (rOf (xC (.int 0)))))])) (rVar 1)))
    (sSeq (sAsg (xBin fdivP (rOf (xIxA (rVar 0) (rOf (xC (.int 0))))) (rVar 1)) (gPut 0 (rOf (xC (.int 0)))))
    (sSeq (sRetV 2)
    sNil)))
    sNil)
    (sSeq (sAsg (xBin addP (rOf (xIxA (rVar 0) (rOf (xC (.int 2))))) (rOf (xC (.int 1)))) (gPut 0 (rOf (xC (.int 2)))))
    (sSeq (sSet 3 (xBin modP (rOf (xBlt intS [(rOf (xBin addP (rOf (xIxA (rVar 0) (rOf (xC (.int 1))))) (rOf (xBin mulP (rOf (xC (.int 49979687))) (rOf (xIxA (rVar 0) (rOf (xC (.int 2)))))))))])) (rOf (xC (.int 2305843009213693951)))))
    (sSeq (sSet 4 (xBin addP (rOf (xBin mulP (rOf (xBin modP (rOf (xBlt intS [(rOf (xBin addP (rOf (xBin mulP (rVar 3) (rVar 3))) (rOf (xBin mulP (rOf (xC (.int 379))) (rOf (xIxA (rVar 0) (rOf (xC (.int 2)))))))))])) (rOf (xC (.int 2305843009213693921))))) (rOf (xC (.int 32416187567))))) (rVar 3)))
    (sSeq (sRet (xBin modP (rOf (xBlt intS [(rOf (xBin fdivP (rVar 4) (rOf (xC (.int 65699)))))])) (rVar 1)))
    sNil)))))
theorem body_114 (X : Cx) (Q : QX X 0 N_114 L_114 W_114 sc_114) (es : X.env.scope = sc_114) (m : MX Md X) : PSs X (defBody s_114) (tS (gd X) b_114) := by
  have v_tin : ∀ {p : Pos}, PE X (.Name "tin" p) (tVar 0) := fun {p} => Q.n.var 0 0 rfl rfl
  have v_total : ∀ {p : Pos}, PE X (.Name "total" p) (tVar 1) := fun {p} => Q.n.var 1 2 rfl rfl
  have v_found : ∀ {p : Pos}, PE X (.Name "found" p) (tVar 2) := fun {p} => Q.n.var 2 3 rfl rfl
  have v_one : ∀ {p : Pos}, PE X (.Name "one" p) (tVar 3) := fun {p} => Q.n.var 3 4 rfl rfl
  have v_two : ∀ {p : Pos}, PE X (.Name "two" p) (tVar 4) := fun {p} => Q.n.var 4 5 rfl rfl
  exact (pS_cons (pS_if (F_gt (rE (F_ix Q.d (rV v_tin) (rE kI) True.intro)) (rE kI)).c
    (pS_cons (S_set Q.d Q.n Q.w 2 0 rfl rfl (F_mod (rE (F_int Q.n 1 rfl m.f_int (rE (F_ix Q.d (rV v_tin) (rE kI) True.intro)) True.intro)) (rV v_total)) True.intro)
    (pS_cons (S_put Q.d v_tin (rE kI) (F_fdiv (rE (F_ix Q.d (rV v_tin) (rE kI) True.intro)) (rV v_total)) True.intro True.intro)
    (pS_cons (pS_retV v_found)
    pS_nil)))
    pS_nil)
    (pS_cons (S_put Q.d v_tin (rE kI) (F_add (rE (F_ix Q.d (rV v_tin) (rE kI) True.intro)) (rE kI)) True.intro True.intro)
    (pS_cons (S_set Q.d Q.n Q.w 3 1 rfl rfl (F_mod (rE (F_int Q.n 1 rfl m.f_int (rE (F_add (rE (F_ix Q.d (rV v_tin) (rE kI) True.intro)) (rE (F_mul (rE kI) (rE (F_ix Q.d (rV v_tin) (rE kI) True.intro)))))) True.intro)) (rE kI)) True.intro)
    (pS_cons (S_set Q.d Q.n Q.w 4 2 rfl rfl (F_add (rE (F_mul (rE (F_mod (rE (F_int Q.n 1 rfl m.f_int (rE (F_add (rE (F_mul (rV v_one) (rV v_one))) (rE (F_mul (rE kI) (rE (F_ix Q.d (rV v_tin) (rE kI) True.intro)))))) True.intro)) (rE kI))) (rE kI))) (rV v_one)) True.intro)
    (pS_cons (pS_ret (F_mod (rE (F_int Q.n 1 rfl m.f_int (rE (F_fdiv (rV v_two) (rE kI))) True.intro)) (rV v_total)))
    pS_nil)))))
def F__law_dealt : Fn := bodyFn 2 N_114.length b_114
theorem callee__law_dealt {Pr : Program} {w : World} {K : PySem.W.Frag} {mg : Str → Option Value} {base : Heap} (m : Md Pr w K mg base) : Callee Pr w K mg base "_law_dealt" 1 2 F__law_dealt := by
  obtain ⟨hm, fd, F⟩ := m.d__law_dealt
  exact callee_by (M := Md) F fs_114 hm (F.bindsN (ps := ["tin", "total"]) fun _ _ _ _ _ _ us hl => match us, hl with | [_, _], _ => rfl) rfl m (by decide +kernel) (by decide +kernel) body_114
/-! ### is_between -/
def N_33 : List Str := ["thing", "least", "most"]
def L_33 : List (Str × Bool) := [("is_whole_codes", false), ("thing", true), ("least", true), ("most", true)]
def W_33 : List Str := []
theorem fs_33 : FnScope N_33 ["thing", "least", "most"] sc_33 := ⟨rfl, rfl, rfl, by decide +kernel, rfl, by decide +kernel, by decide +kernel⟩
def b_33 : Sx := (sSeq (sRet (xB (xAnd [(xCall F_is_whole_codes [(xVar 0)]), (xChain leS leS (rVar 1) (rVar 0) (rVar 2))])))
    sNil)
theorem body_33 (X : Cx) (Q : QX X 1 N_33 L_33 W_33 sc_33) (es : X.env.scope = sc_33) (m : MX Md X) : PSs X (defBody s_33) (tS (gd X) b_33) := by
  have v_thing : ∀ {p : Pos}, PE X (.Name "thing" p) (tVar 0) := fun {p} => Q.n.var 0 1 rfl rfl
  have v_least : ∀ {p : Pos}, PE X (.Name "least" p) (tVar 1) := fun {p} => Q.n.var 1 2 rfl rfl
  have v_most : ∀ {p : Pos}, PE X (.Name "most" p) (tVar 2) := fun {p} => Q.n.var 2 3 rfl rfl
  exact (pS_cons (pS_ret (F_and (.cons (F_call Q.d Q.n 0 rfl (callee_is_whole_codes m) (by decide) rfl (.cons (eV v_thing) True.intro .nil)) (.cons (F_lele (rV v_least) (rV v_thing) (rV v_most)).e .nil))))
    pS_nil)
def F_is_between : Fn := bodyFn 3 N_33.length b_33
theorem callee_is_between {Pr : Program} {w : World} {K : PySem.W.Frag} {mg : Str → Option Value} {base : Heap} (m : Md Pr w K mg base) : Callee Pr w K mg base "is_between" 2 3 F_is_between := by
  obtain ⟨hm, fd, F⟩ := m.d_is_between
  exact callee_by (M := Md) F fs_33 hm (F.bindsN (ps := ["thing", "least", "most"]) fun _ _ _ _ _ _ us hl => match us, hl with | [_, _, _], _ => rfl) rfl m (by decide +kernel) (by decide +kernel) body_33
/-! ### are_loops -/
def N_42 : List Str := ["rows", "loops", "at", "counts", "one", "row", "first", "last", "other"]
def L_42 : List (Str × Bool) := [("enumerate", false), ("rows", true), ("sorted", false), ("counts", true), ("loops", true), ("all", false), ("at", true), ("range", false), ("len", false)]
def W_42 : List Str := ["counts", "at", "one"]
theorem fs_42 : FnScope N_42 ["rows", "loops"] sc_42 := ⟨rfl, rfl, rfl, by decide +kernel, rfl, by decide +kernel, by decide +kernel⟩
def b_42 : Sx := (sSeq (sSet 3 (xLc (iEnum (xVar 0)) [2, 5] (gT [(gV 2), (gV 5)]) (bOf (xCmp eqS (rOf (xIxA (rVar 5) (rOf (xC (.int 0))))) (rOf (xC (.str "count"))))) (xVar 2)))
    (sSeq (sIf (bOr [(bOf (xCmp neS (rOf (xBlt sortSetS [(rVar 3)])) (rOf (xLc (iSeq (xVar 1)) [6, 7] (gT [(gV 6), (gV 7)]) bYes (xVar 6))))), (bNot (bOf (xBlt allS [(rOf (xLc (iSeq (xVar 1)) [6, 7] (gT [(gV 6), (gV 7)]) bYes (xCmp ltS (rVar 6) (rVar 7))))])))])
    (sSeq (sRet (xC (.bool false)))
    sNil)
    sNil)
    (sSeq (sFor (iEnum (xVar 1)) (gT [(gV 2), (gV 4)])
    (sSeq (sIf (bNot (bOf (xBlt allS [(rOf (xLc (iSeq (xSl (rVar 1) (some (rOf (xBin addP (rVar 2) (rOf (xC (.int 1)))))) none)) [8] (gV 8) bYes (xCall F_is_apart [(xVar 4), (xVar 8)])))])))
    (sSeq (sRet (xC (.bool false)))
    sNil)
    sNil)
    sNil))
    (sSeq (sRet (xBlt allS [(rOf (xLc (iRng [(xBlt lenS [(rVar 0)])]) [5] (gV 5) bYes (xCmp leS (rOf (xBlt lenS [(rOf (xCall F_around_by [(xVar 1), (xVar 5)]))])) (rOf (xC (.int 2))))))]))
    sNil))))
theorem body_42 (X : Cx) (Q : QX X 1 N_42 L_42 W_42 sc_42) (es : X.env.scope = sc_42) (m : MX Md X) : PSs X (defBody s_42) (tS (gd X) b_42) := by
  have v_rows : ∀ {p : Pos}, PE X (.Name "rows" p) (tVar 0) := fun {p} => Q.n.var 0 1 rfl rfl
  have v_counts : ∀ {p : Pos}, PE X (.Name "counts" p) (tVar 3) := fun {p} => Q.n.var 3 3 rfl rfl
  have v_loops : ∀ {p : Pos}, PE X (.Name "loops" p) (tVar 1) := fun {p} => Q.n.var 1 4 rfl rfl
  have v_at : ∀ {p : Pos}, PE X (.Name "at" p) (tVar 2) := fun {p} => Q.n.var 2 6 rfl rfl
  exact (pS_cons (S_setLc Q m es 3 [("at", 2), ("row", 5)] [2, 5] [("row", true), ("at", true)] ["at", "row"] rfl (by decide +kernel) rfl rfl (I_enum Q.n 0 rfl m.f_enumerate (eV v_rows) True.intro) (by decide +kernel) (by decide +kernel) (by decide +kernel) (fun Y1 Q1 m1 => by
      have v_row_c1 : ∀ {p : Pos}, PE Y1 (.Name "row" p) (tVar 5) := fun {p} => Q1.n.var 5 0 rfl rfl
      have v_at_c1 : ∀ {p : Pos}, PE Y1 (.Name "at" p) (tVar 2) := fun {p} => Q1.n.var 2 1 rfl rfl
      exact ⟨(G_t Q1.d (.cons (G_v (by decide) (G_n Q1.d Q1.n Q1.w 2 0 rfl rfl)) True.intro (.cons (G_v (by decide) (G_n Q1.d Q1.n Q1.w 5 1 rfl rfl)) True.intro .nil))), (pTs_one (F_eq Q1.d (rE (F_ix Q1.d (rV v_row_c1) (rE kI) True.intro)) (rE kS)).c), (eV v_at_c1)⟩) True.intro)
    (pS_cons (pS_if (T_or (.cons (F_ne Q.d (rE (F_sorted Q.d Q.n 2 rfl m.f_sorted (rV v_counts) True.intro)) (rE (F_lc Q m [("first", 6), ("last", 7)] [6, 7] [("first", true)] ["first", "last"] rfl (pI_seq (eV v_loops)) (by decide +kernel) (by decide +kernel) (by decide +kernel) (fun Y2 Q2 m2 => by
      have v_first_c2 : ∀ {p : Pos}, PE Y2 (.Name "first" p) (tVar 6) := fun {p} => Q2.n.var 6 0 rfl rfl
      exact ⟨(G_t Q2.d (.cons (G_v (by decide) (G_n Q2.d Q2.n Q2.w 6 0 rfl rfl)) True.intro (.cons (G_v (by decide) (G_n Q2.d Q2.n Q2.w 7 1 rfl rfl)) True.intro .nil))), pTs_nil, (eV v_first_c2)⟩) True.intro))).c (.cons (pC_not (T_val (F_all Q.d Q.n 5 rfl m.f_all (rE (F_lc Q m [("first", 6), ("last", 7)] [6, 7] [("first", true), ("last", true)] ["first", "last"] rfl (pI_seq (eV v_loops)) (by decide +kernel) (by decide +kernel) (by decide +kernel) (fun Y3 Q3 m3 => by
      have v_first_c3 : ∀ {p : Pos}, PE Y3 (.Name "first" p) (tVar 6) := fun {p} => Q3.n.var 6 0 rfl rfl
      have v_last_c3 : ∀ {p : Pos}, PE Y3 (.Name "last" p) (tVar 7) := fun {p} => Q3.n.var 7 1 rfl rfl
      exact ⟨(G_t Q3.d (.cons (G_v (by decide) (G_n Q3.d Q3.n Q3.w 6 0 rfl rfl)) True.intro (.cons (G_v (by decide) (G_n Q3.d Q3.n Q3.w 7 1 rfl rfl)) True.intro .nil))), pTs_nil, (F_lt Q3.d (rV v_first_c3) (rV v_last_c3)).e⟩) True.intro)) True.intro) True.intro)) .nil)))
    (pS_cons (pS_ret kB)
    pS_nil)
    pS_nil)
    (pS_cons (S_for (vs := [2, 4]) Q.d (I_enum Q.n 0 rfl m.f_enumerate (eV v_loops) True.intro) (G_t Q.d (.cons (G_v (by decide) (G_n Q.d Q.n Q.w 2 1 rfl rfl)) True.intro (.cons (G_v (by decide) (G_n Q.d Q.n Q.w 4 2 rfl rfl)) True.intro .nil)))
    (pS_cons (pS_if (pC_not (T_val (F_all Q.d Q.n 5 rfl m.f_all (rE (F_lc Q m [("other", 8)] [8] [("is_apart", false), ("one", true), ("other", true)] ["other"] rfl (pI_seq (pE_sl (rV v_loops) (pO_some (rE (F_add (rV v_at) (rE kI)))) pO_none)) (by decide +kernel) (by decide +kernel) (by decide +kernel) (fun Y4 Q4 m4 => by
      have v_one_c4 : ∀ {p : Pos}, PE Y4 (.Name "one" p) (tVar 4) := fun {p} => Q4.n.var 4 1 rfl rfl
      have v_other_c4 : ∀ {p : Pos}, PE Y4 (.Name "other" p) (tVar 8) := fun {p} => Q4.n.var 8 2 rfl rfl
      exact ⟨(G_v (by decide) (G_n Q4.d Q4.n Q4.w 8 0 rfl rfl)), pTs_nil, (F_call Q4.d Q4.n 0 rfl (callee_is_apart m4) (by decide) rfl (.cons (eV v_one_c4) True.intro (.cons (eV v_other_c4) True.intro .nil)))⟩) True.intro)) True.intro) True.intro))
    (pS_cons (pS_ret kB)
    pS_nil)
    pS_nil)
    pS_nil) True.intro)
    (pS_cons (pS_ret (F_all Q.d Q.n 5 rfl m.f_all (rE (F_lc Q m [("row", 5)] [5] [("len", false), ("around_by", false), ("loops", true), ("row", true), ("DEEPEST", false)] ["row"] rfl (I_rng1 Q.n 7 rfl m.f_range (F_len Q.n 8 rfl m.f_len (rV v_rows) True.intro) True.intro) (by decide +kernel) (by decide +kernel) (by decide +kernel) (fun Y5 Q5 m5 => by
      have v_loops_c5 : ∀ {p : Pos}, PE Y5 (.Name "loops" p) (tVar 1) := fun {p} => Q5.n.var 1 2 rfl rfl
      have v_row_c5 : ∀ {p : Pos}, PE Y5 (.Name "row" p) (tVar 5) := fun {p} => Q5.n.var 5 3 rfl rfl
      have g_DEEPEST_c5 : ∀ {p : Pos}, PE Y5 (.Name "DEEPEST" p) (tC (V_DEEPEST Y5.K)) := fun {p} => Q5.n.con 4 rfl m5.c_DEEPEST
      exact ⟨(G_v (by decide) (G_n Q5.d Q5.n Q5.w 5 0 rfl rfl)), pTs_nil, (F_le (rE (F_len Q5.n 0 rfl m5.f_len (rE (F_call Q5.d Q5.n 1 rfl (callee_around_by m5) (by decide) rfl (.cons (eV v_loops_c5) True.intro (.cons (eV v_row_c5) True.intro .nil)))) True.intro)) (rE (eC _ g_DEEPEST_c5 rp_int))).e⟩) True.intro)) True.intro))
    pS_nil))))
def F_are_loops : Fn := bodyFn 2 N_42.length b_42
theorem callee_are_loops {Pr : Program} {w : World} {K : PySem.W.Frag} {mg : Str → Option Value} {base : Heap} (m : Md Pr w K mg base) : Callee Pr w K mg base "are_loops" 2 2 F_are_loops := by
  obtain ⟨hm, fd, F⟩ := m.d_are_loops
  exact callee_by (M := Md) F fs_42 hm (F.bindsN (ps := ["rows", "loops"]) fun _ _ _ _ _ _ us hl => match us, hl with | [_, _], _ => rfl) rfl m (by decide +kernel) (by decide +kernel) body_42
/-! ### are_jumps -/
def N_43 : List Str := ["rows", "loops", "at", "row", "here", "first"]
def L_43 : List (Str × Bool) := [("enumerate", false), ("rows", true), ("row", true), ("JUMPS", false), ("around_by", false), ("loops", true), ("at", true), ("all", false)]
def W_43 : List Str := ["at", "row", "here"]
theorem fs_43 : FnScope N_43 ["rows", "loops"] sc_43 := ⟨rfl, rfl, rfl, by decide +kernel, rfl, by decide +kernel, by decide +kernel⟩
def b_43 : Sx := (sSeq (sFor (iEnum (xVar 0)) (gT [(gV 2), (gV 3)])
    (sSeq (sIf (bOf (xCmp (inS false) (rOf (xIxA (rVar 3) (rOf (xC (.int 0))))) (rOf (xC P_JUMPS))))
    (sSeq (sSet 4 (xCall F_around_by [(xVar 1), (xVar 2)]))
    (sSeq (sIf (bOr [(bOf (xCmp leS (rOf (xIxA (rVar 3) (rOf (xNeg (rOf (xC (.int 1))))))) (rVar 2))), (bNot (bOf (xBlt allS [(rOf (xLc (iSeq (xCall F_around_by [(xVar 1), (xIxA (rVar 3) (rOf (xNeg (rOf (xC (.int 1))))))])) [5] (gV 5) bYes (xCmp (inS false) (rVar 5) (rVar 4))))])))])
    (sSeq (sRet (xC (.bool false)))
    sNil)
    sNil)
    sNil))
    sNil)
    sNil))
    (sSeq (sRet (xC (.bool true)))
    sNil))
theorem body_43 (X : Cx) (Q : QX X 1 N_43 L_43 W_43 sc_43) (es : X.env.scope = sc_43) (m : MX Md X) : PSs X (defBody s_43) (tS (gd X) b_43) := by
  have v_rows : ∀ {p : Pos}, PE X (.Name "rows" p) (tVar 0) := fun {p} => Q.n.var 0 1 rfl rfl
  have v_row : ∀ {p : Pos}, PE X (.Name "row" p) (tVar 3) := fun {p} => Q.n.var 3 2 rfl rfl
  have g_JUMPS : ∀ {p : Pos}, PE X (.Name "JUMPS" p) (tC (V_JUMPS X.K)) := fun {p} => Q.n.con 3 rfl m.c_JUMPS
  have v_loops : ∀ {p : Pos}, PE X (.Name "loops" p) (tVar 1) := fun {p} => Q.n.var 1 5 rfl rfl
  have v_at : ∀ {p : Pos}, PE X (.Name "at" p) (tVar 2) := fun {p} => Q.n.var 2 6 rfl rfl
  exact (pS_cons (S_for (vs := [2, 3]) Q.d (I_enum Q.n 0 rfl m.f_enumerate (eV v_rows) True.intro) (G_t Q.d (.cons (G_v (by decide) (G_n Q.d Q.n Q.w 2 0 rfl rfl)) True.intro (.cons (G_v (by decide) (G_n Q.d Q.n Q.w 3 1 rfl rfl)) True.intro .nil)))
    (pS_cons (pS_if (F_in Q.d (rE (F_ix Q.d (rV v_row) (rE kI) True.intro)) (rE (eCk _ g_JUMPS m.r_JUMPS)) True.intro).c
    (pS_cons (S_set Q.d Q.n Q.w 4 2 rfl rfl (F_call Q.d Q.n 4 rfl (callee_around_by m) (by decide) rfl (.cons (eV v_loops) True.intro (.cons (eV v_at) True.intro .nil))) True.intro)
    (pS_cons (pS_if (T_or (.cons (F_le (rE (F_ix Q.d (rV v_row) (rE (pE_neg (rE kI))) True.intro)) (rV v_at)).c (.cons (pC_not (T_val (F_all Q.d Q.n 7 rfl m.f_all (rE (F_lc Q m [("first", 5)] [5] [("first", true), ("here", true)] ["first"] rfl (pI_seq (F_call Q.d Q.n 4 rfl (callee_around_by m) (by decide) rfl (.cons (eV v_loops) True.intro (.cons (F_ix Q.d (rV v_row) (rE (pE_neg (rE kI))) True.intro) True.intro .nil)))) (by decide +kernel) (by decide +kernel) (by decide +kernel) (fun Y1 Q1 m1 => by
      have v_first_c1 : ∀ {p : Pos}, PE Y1 (.Name "first" p) (tVar 5) := fun {p} => Q1.n.var 5 0 rfl rfl
      have v_here_c1 : ∀ {p : Pos}, PE Y1 (.Name "here" p) (tVar 4) := fun {p} => Q1.n.var 4 1 rfl rfl
      exact ⟨(G_v (by decide) (G_n Q1.d Q1.n Q1.w 5 0 rfl rfl)), pTs_nil, (F_in Q1.d (rV v_first_c1) (rV v_here_c1) True.intro).e⟩) True.intro)) True.intro) True.intro)) .nil)))
    (pS_cons (pS_ret kB)
    pS_nil)
    pS_nil)
    pS_nil))
    pS_nil)
    pS_nil) True.intro)
    (pS_cons (pS_ret kB)
    pS_nil))
def F_are_jumps : Fn := bodyFn 2 N_43.length b_43
theorem callee_are_jumps {Pr : Program} {w : World} {K : PySem.W.Frag} {mg : Str → Option Value} {base : Heap} (m : Md Pr w K mg base) : Callee Pr w K mg base "are_jumps" 2 2 F_are_jumps := by
  obtain ⟨hm, fd, F⟩ := m.d_are_jumps
  exact callee_by (M := Md) F fs_43 hm (F.bindsN (ps := ["rows", "loops"]) fun _ _ _ _ _ _ us hl => match us, hl with | [_, _], _ => rfl) rfl m (by decide +kernel) (by decide +kernel) body_43
/-! ### is_worth -/
def N_60 : List Str := ["thing"]
def L_60 : List (Str × Bool) := [("is_whole_terms", false), ("thing", true), ("WORTHS", false)]
def W_60 : List Str := []
theorem fs_60 : FnScope N_60 ["thing"] sc_60 := ⟨rfl, rfl, rfl, by decide +kernel, rfl, by decide +kernel, by decide +kernel⟩
def b_60 : Sx := (sSeq (sRet (xCallK gS_is_whole_terms F_is_whole_terms [(xVar 0)] [(xBin subP (rOf (xC (.int 256))) (rOf (xC (.int 1))))]))
    sNil)
theorem body_60 (X : Cx) (Q : QX X 1 N_60 L_60 W_60 sc_60) (es : X.env.scope = sc_60) (m : MX Md X) : PSs X (defBody s_60) (tS (gd X) b_60) := by
  have v_thing : ∀ {p : Pos}, PE X (.Name "thing" p) (tVar 0) := fun {p} => Q.n.var 0 1 rfl rfl
  have g_WORTHS : ∀ {p : Pos}, PE X (.Name "WORTHS" p) (tC (V_WORTHS X.K)) := fun {p} => Q.n.con 2 rfl m.c_WORTHS
  exact (pS_cons (pS_ret (F_callK Q.d Q.n 0 rfl (calleeK_is_whole_terms m) (by decide) rfl (.cons (eV v_thing) True.intro .nil) (.cons (F_sub (rE (eC _ g_WORTHS rp_int)) (rE kI)) .nil) rfl))
    pS_nil)
def F_is_worth : Fn := bodyFn 1 N_60.length b_60
theorem callee_is_worth {Pr : Program} {w : World} {K : PySem.W.Frag} {mg : Str → Option Value} {base : Heap} (m : Md Pr w K mg base) : Callee Pr w K mg base "is_worth" 2 1 F_is_worth := by
  obtain ⟨hm, fd, F⟩ := m.d_is_worth
  exact callee_by (M := Md) F fs_60 hm (F.bindsN (ps := ["thing"]) fun _ _ _ _ _ _ us hl => match us, hl with | [_], _ => rfl) rfl m (by decide +kernel) (by decide +kernel) body_60
/-! ### span_given -/
def N_89 : List Str := ["row", "standing", "word", "parts", "registers", "arrays"]
def L_89 : List (Str × Bool) := [("row", true), ("standing", true), ("word", true), ("parts", true), ("registers", true), ("arrays", true), ("is_op", false)]
def W_89 : List Str := ["word", "parts", "registers", "arrays"]
theorem fs_89 : FnScope N_89 ["row", "standing"] sc_89 := ⟨rfl, rfl, rfl, by decide +kernel, rfl, by decide +kernel, by decide +kernel⟩
def b_89 : Sx := (sSeq (sAsg (xVar 0) (gStar 2 3))
    (sSeq (sAsg (xVar 1) (gT [(gV 4), (gV 5)]))
    (sSeq (sIf (bOf (xCmp eqS (rVar 2) (rOf (xC (.str "set")))))
    (sSeq (sRet (xTup [(false, (xIxA (rVar 3) (rOf (xC (.int 1))))), (false, (xIxA (rVar 3) (rOf (xC (.int 1)))))]))
    sNil)
    sNil)
    (sSeq (sIf (bOf (xCmp eqS (rVar 2) (rOf (xC (.str "copy")))))
    (sSeq (sRet (xIxA (rVar 4) (rOf (xIxA (rVar 3) (rOf (xC (.int 1)))))))
    sNil)
    sNil)
    (sSeq (sIf (bOf (xCmp eqS (rVar 2) (rOf (xC (.str "get")))))
    (sSeq (sRet (xIxA (rVar 5) (rOf (xIxA (rVar 3) (rOf (xC (.int 1)))))))
    sNil)
    sNil)
    (sSeq (sRet (xIf (bOf (xCall F_is_op [(xVar 2)])) xNever (xC (.none))))
    sNil))))))
theorem body_89 (X : Cx) (Q : QX X 1 N_89 L_89 W_89 sc_89) (es : X.env.scope = sc_89) (m : MX Md X) : PSs X (defBody s_89) (tS (gd X) b_89) := by
  have v_row : ∀ {p : Pos}, PE X (.Name "row" p) (tVar 0) := fun {p} => Q.n.var 0 0 rfl rfl
  have v_standing : ∀ {p : Pos}, PE X (.Name "standing" p) (tVar 1) := fun {p} => Q.n.var 1 1 rfl rfl
  have v_word : ∀ {p : Pos}, PE X (.Name "word" p) (tVar 2) := fun {p} => Q.n.var 2 2 rfl rfl
  have v_parts : ∀ {p : Pos}, PE X (.Name "parts" p) (tVar 3) := fun {p} => Q.n.var 3 3 rfl rfl
  have v_registers : ∀ {p : Pos}, PE X (.Name "registers" p) (tVar 4) := fun {p} => Q.n.var 4 4 rfl rfl
  have v_arrays : ∀ {p : Pos}, PE X (.Name "arrays" p) (tVar 5) := fun {p} => Q.n.var 5 5 rfl rfl
  exact (pS_cons (S_asgN (vs := [2, 3]) (eV v_row) (G_star Q.d (G_n Q.d Q.n Q.w 2 0 rfl rfl) (G_n Q.d Q.n Q.w 3 1 rfl rfl) (by decide) (by decide)) True.intro True.intro True.intro)
    (pS_cons (S_asgN (vs := [4, 5]) (eV v_standing) (G_t Q.d (.cons (G_v (by decide) (G_n Q.d Q.n Q.w 4 2 rfl rfl)) True.intro (.cons (G_v (by decide) (G_n Q.d Q.n Q.w 5 3 rfl rfl)) True.intro .nil))) True.intro True.intro True.intro)
    (pS_cons (pS_if (F_eq Q.d (rV v_word) (rE kS)).c
    (pS_cons (pS_ret (F_tup (.cons (F_ix Q.d (rV v_parts) (rE kI) True.intro) True.intro (.cons (F_ix Q.d (rV v_parts) (rE kI) True.intro) True.intro .nil))))
    pS_nil)
    pS_nil)
    (pS_cons (pS_if (F_eq Q.d (rV v_word) (rE kS)).c
    (pS_cons (pS_ret (F_ix Q.d (rV v_registers) (rE (F_ix Q.d (rV v_parts) (rE kI) True.intro)) True.intro))
    pS_nil)
    pS_nil)
    (pS_cons (pS_if (F_eq Q.d (rV v_word) (rE kS)).c
    (pS_cons (pS_ret (F_ix Q.d (rV v_arrays) (rE (F_ix Q.d (rV v_parts) (rE kI) True.intro)) True.intro))
    pS_nil)
    pS_nil)
    (pS_cons (pS_ret (pE_if (T_val (F_call Q.d Q.n 6 rfl (callee_is_op m) (by decide) rfl (.cons (eV v_word) True.intro .nil)) True.intro) pE_never kN))
    pS_nil))))))
def F_span_given : Fn := bodyFn 2 N_89.length b_89
theorem callee_span_given {Pr : Program} {w : World} {K : PySem.W.Frag} {mg : Str → Option Value} {base : Heap} (m : Md Pr w K mg base) : Callee Pr w K mg base "span_given" 2 2 F_span_given := by
  obtain ⟨hm, fd, F⟩ := m.d_span_given
  exact callee_by (M := Md) F fs_89 hm (F.bindsN (ps := ["row", "standing"]) fun _ _ _ _ _ _ us hl => match us, hl with | [_, _], _ => rfl) rfl m (by decide +kernel) (by decide +kernel) body_89
/-! ### joined_standing -/
def N_92 : List Str := ["one", "other", "some", "more", "near", "far"]
def L_92 : List (Str × Bool) := [("tuple", false), ("zip", false), ("one", true), ("other", true)]
def W_92 : List Str := []
theorem fs_92 : FnScope N_92 ["one", "other"] sc_92 := ⟨rfl, rfl, rfl, by decide +kernel, rfl, by decide +kernel, by decide +kernel⟩
def b_92 : Sx := (sSeq (sRet (xBlt tupS [(rOf (xLc (iZipP (xVar 0) (xVar 1)) [2, 3] (gT [(gV 2), (gV 3)]) bYes (xBlt tupS [(rOf (xLc (iZipP (xVar 2) (xVar 3)) [4, 5] (gT [(gV 4), (gV 5)]) bYes (xCall F_joined_span [(xVar 4), (xVar 5)])))])))]))
    sNil)
theorem body_92 (X : Cx) (Q : QX X 1 N_92 L_92 W_92 sc_92) (es : X.env.scope = sc_92) (m : MX Md X) : PSs X (defBody s_92) (tS (gd X) b_92) := by
  have v_one : ∀ {p : Pos}, PE X (.Name "one" p) (tVar 0) := fun {p} => Q.n.var 0 2 rfl rfl
  have v_other : ∀ {p : Pos}, PE X (.Name "other" p) (tVar 1) := fun {p} => Q.n.var 1 3 rfl rfl
  exact (pS_cons (pS_ret (F_tuple Q.n 0 rfl m.f_tuple (rE (F_lc Q m [("some", 2), ("more", 3)] [2, 3] [("tuple", false), ("zip", false), ("some", true), ("more", true)] ["some", "more"] rfl (I_zip Q.n 1 rfl m.f_zip (eV v_one) True.intro (eV v_other) True.intro) (by decide +kernel) (by decide +kernel) (by decide +kernel) (fun Y1 Q1 m1 => by
      have v_some_c1 : ∀ {p : Pos}, PE Y1 (.Name "some" p) (tVar 2) := fun {p} => Q1.n.var 2 2 rfl rfl
      have v_more_c1 : ∀ {p : Pos}, PE Y1 (.Name "more" p) (tVar 3) := fun {p} => Q1.n.var 3 3 rfl rfl
      exact ⟨(G_t Q1.d (.cons (G_v (by decide) (G_n Q1.d Q1.n Q1.w 2 0 rfl rfl)) True.intro (.cons (G_v (by decide) (G_n Q1.d Q1.n Q1.w 3 1 rfl rfl)) True.intro .nil))), pTs_nil, (F_tuple Q1.n 0 rfl m1.f_tuple (rE (F_lc Q1 m1 [("near", 4), ("far", 5)] [4, 5] [("joined_span", false), ("near", true), ("far", true)] ["near", "far"] rfl (I_zip Q1.n 1 rfl m1.f_zip (eV v_some_c1) True.intro (eV v_more_c1) True.intro) (by decide +kernel) (by decide +kernel) (by decide +kernel) (fun Y2 Q2 m2 => by
      have v_near_c2 : ∀ {p : Pos}, PE Y2 (.Name "near" p) (tVar 4) := fun {p} => Q2.n.var 4 1 rfl rfl
      have v_far_c2 : ∀ {p : Pos}, PE Y2 (.Name "far" p) (tVar 5) := fun {p} => Q2.n.var 5 2 rfl rfl
      exact ⟨(G_t Q2.d (.cons (G_v (by decide) (G_n Q2.d Q2.n Q2.w 4 0 rfl rfl)) True.intro (.cons (G_v (by decide) (G_n Q2.d Q2.n Q2.w 5 1 rfl rfl)) True.intro .nil))), pTs_nil, (F_call Q2.d Q2.n 0 rfl (callee_joined_span m2) (by decide) rfl (.cons (eV v_near_c2) True.intro (.cons (eV v_far_c2) True.intro .nil)))⟩) True.intro)) True.intro)⟩) True.intro)) True.intro))
    pS_nil)
def F_joined_standing : Fn := bodyFn 2 N_92.length b_92
theorem callee_joined_standing {Pr : Program} {w : World} {K : PySem.W.Frag} {mg : Str → Option Value} {base : Heap} (m : Md Pr w K mg base) : Callee Pr w K mg base "joined_standing" 2 2 F_joined_standing := by
  obtain ⟨hm, fd, F⟩ := m.d_joined_standing
  exact callee_by (M := Md) F fs_92 hm (F.bindsN (ps := ["one", "other"]) fun _ _ _ _ _ _ us hl => match us, hl with | [_, _], _ => rfl) rfl m (by decide +kernel) (by decide +kernel) body_92
/-! ### lies_within -/
def N_93 : List Str := ["one", "other", "some", "more", "near", "far"]
def L_93 : List (Str × Bool) := [("zip", false), ("one", true), ("other", true), ("all", false), ("some", true), ("more", true)]
def W_93 : List Str := ["some", "more"]
theorem fs_93 : FnScope N_93 ["one", "other"] sc_93 := ⟨rfl, rfl, rfl, by decide +kernel, rfl, by decide +kernel, by decide +kernel⟩
def b_93 : Sx := (sSeq (sFor (iZipP (xVar 0) (xVar 1)) (gT [(gV 2), (gV 3)])
    (sSeq (sIf (bNot (bOf (xBlt allS [(rOf (xLc (iZipP (xVar 2) (xVar 3)) [4, 5] (gT [(gV 4), (gV 5)]) bYes (xCall F_does_lie [(xVar 4), (xVar 5)])))])))
    (sSeq (sRet (xC (.bool false)))
    sNil)
    sNil)
    sNil))
    (sSeq (sRet (xC (.bool true)))
    sNil))
theorem body_93 (X : Cx) (Q : QX X 1 N_93 L_93 W_93 sc_93) (es : X.env.scope = sc_93) (m : MX Md X) : PSs X (defBody s_93) (tS (gd X) b_93) := by
  have v_one : ∀ {p : Pos}, PE X (.Name "one" p) (tVar 0) := fun {p} => Q.n.var 0 1 rfl rfl
  have v_other : ∀ {p : Pos}, PE X (.Name "other" p) (tVar 1) := fun {p} => Q.n.var 1 2 rfl rfl
  have v_some : ∀ {p : Pos}, PE X (.Name "some" p) (tVar 2) := fun {p} => Q.n.var 2 4 rfl rfl
  have v_more : ∀ {p : Pos}, PE X (.Name "more" p) (tVar 3) := fun {p} => Q.n.var 3 5 rfl rfl
  exact (pS_cons (S_for (vs := [2, 3]) Q.d (I_zip Q.n 0 rfl m.f_zip (eV v_one) True.intro (eV v_other) True.intro) (G_t Q.d (.cons (G_v (by decide) (G_n Q.d Q.n Q.w 2 0 rfl rfl)) True.intro (.cons (G_v (by decide) (G_n Q.d Q.n Q.w 3 1 rfl rfl)) True.intro .nil)))
    (pS_cons (pS_if (pC_not (T_val (F_all Q.d Q.n 3 rfl m.f_all (rE (F_lc Q m [("near", 4), ("far", 5)] [4, 5] [("does_lie", false), ("near", true), ("far", true)] ["near", "far"] rfl (I_zip Q.n 0 rfl m.f_zip (eV v_some) True.intro (eV v_more) True.intro) (by decide +kernel) (by decide +kernel) (by decide +kernel) (fun Y1 Q1 m1 => by
      have v_near_c1 : ∀ {p : Pos}, PE Y1 (.Name "near" p) (tVar 4) := fun {p} => Q1.n.var 4 1 rfl rfl
      have v_far_c1 : ∀ {p : Pos}, PE Y1 (.Name "far" p) (tVar 5) := fun {p} => Q1.n.var 5 2 rfl rfl
      exact ⟨(G_t Q1.d (.cons (G_v (by decide) (G_n Q1.d Q1.n Q1.w 4 0 rfl rfl)) True.intro (.cons (G_v (by decide) (G_n Q1.d Q1.n Q1.w 5 1 rfl rfl)) True.intro .nil))), pTs_nil, (F_call Q1.d Q1.n 0 rfl (callee_does_lie m1) (by decide) rfl (.cons (eV v_near_c1) True.intro (.cons (eV v_far_c1) True.intro .nil)))⟩) True.intro)) True.intro) True.intro))
    (pS_cons (pS_ret kB)
    pS_nil)
    pS_nil)
    pS_nil) True.intro)
    (pS_cons (pS_ret kB)
    pS_nil))
def F_lies_within : Fn := bodyFn 2 N_93.length b_93
theorem callee_lies_within {Pr : Program} {w : World} {K : PySem.W.Frag} {mg : Str → Option Value} {base : Heap} (m : Md Pr w K mg base) : Callee Pr w K mg base "lies_within" 2 2 F_lies_within := by
  obtain ⟨hm, fd, F⟩ := m.d_lies_within
  exact callee_by (M := Md) F fs_93 hm (F.bindsN (ps := ["one", "other"]) fun _ _ _ _ _ _ us hl => match us, hl with | [_, _], _ => rfl) rfl m (by decide +kernel) (by decide +kernel) body_93
/-! ### is_kept_by -/
def N_97 : List Str := ["sheet", "row", "register", "span"]
def L_97 : List (Str × Bool) := [("sheet", true), ("row", true), ("does_lie", false), ("register", true), ("span", true)]
def W_97 : List Str := []
theorem fs_97 : FnScope N_97 ["sheet", "row", "register", "span"] sc_97 := ⟨rfl, rfl, rfl, by decide +kernel, rfl, by decide +kernel, by decide +kernel⟩
def b_97 : Sx := (sSeq (sRet (xB (xOr [(xNone false (rOf (xIxA (rVar 0) (rVar 1)))), (xCall F_does_lie [(xIxA (rOf (xIxA (rOf (xIxA (rVar 0) (rVar 1))) (rOf (xC (.int 0))))) (rVar 2)), (xVar 3)])])))
    sNil)
theorem body_97 (X : Cx) (Q : QX X 1 N_97 L_97 W_97 sc_97) (es : X.env.scope = sc_97) (m : MX Md X) : PSs X (defBody s_97) (tS (gd X) b_97) := by
  have v_sheet : ∀ {p : Pos}, PE X (.Name "sheet" p) (tVar 0) := fun {p} => Q.n.var 0 0 rfl rfl
  have v_row : ∀ {p : Pos}, PE X (.Name "row" p) (tVar 1) := fun {p} => Q.n.var 1 1 rfl rfl
  have v_register : ∀ {p : Pos}, PE X (.Name "register" p) (tVar 2) := fun {p} => Q.n.var 2 3 rfl rfl
  have v_span : ∀ {p : Pos}, PE X (.Name "span" p) (tVar 3) := fun {p} => Q.n.var 3 4 rfl rfl
  exact (pS_cons (pS_ret (F_or (.cons (F_isN (rE (F_ix Q.d (rV v_sheet) (rV v_row) True.intro))).e (.cons (F_call Q.d Q.n 2 rfl (callee_does_lie m) (by decide) rfl (.cons (F_ix Q.d (rE (F_ix Q.d (rE (F_ix Q.d (rV v_sheet) (rV v_row) True.intro)) (rE kI) True.intro)) (rV v_register) True.intro) True.intro (.cons (eV v_span) True.intro .nil))) .nil))))
    pS_nil)
def F_is_kept_by : Fn := bodyFn 4 N_97.length b_97
theorem callee_is_kept_by {Pr : Program} {w : World} {K : PySem.W.Frag} {mg : Str → Option Value} {base : Heap} (m : Md Pr w K mg base) : Callee Pr w K mg base "is_kept_by" 2 4 F_is_kept_by := by
  obtain ⟨hm, fd, F⟩ := m.d_is_kept_by
  exact callee_by (M := Md) F fs_97 hm (F.bindsN (ps := ["sheet", "row", "register", "span"]) fun _ _ _ _ _ _ us hl => match us, hl with | [_, _, _, _], _ => rfl) rfl m (by decide +kernel) (by decide +kernel) body_97
/-! ### _law_picked -/
def N_115 : List Str := ["tin", "items"]
def L_115 : List (Str × Bool) := [("items", true), ("_law_dealt", false), ("tin", true), ("len", false)]
def W_115 : List Str := []
theorem fs_115 : FnScope N_115 ["tin", "items"] sc_115 := ⟨rfl, rfl, rfl, by decide +kernel, rfl, by decide +kernel, by decide +kernel⟩
def b_115 : Sx := (sSeq (sRet (xIxA (rVar 1) (rOf (xCall F__law_dealt [(xVar 0), (xBlt lenS [(rVar 1)])]))))
    sNil)
theorem body_115 (X : Cx) (Q : QX X 1 N_115 L_115 W_115 sc_115) (es : X.env.scope = sc_115) (m : MX Md X) : PSs X (defBody s_115) (tS (gd X) b_115) := by
  have v_items : ∀ {p : Pos}, PE X (.Name "items" p) (tVar 1) := fun {p} => Q.n.var 1 0 rfl rfl
  have v_tin : ∀ {p : Pos}, PE X (.Name "tin" p) (tVar 0) := fun {p} => Q.n.var 0 2 rfl rfl
  exact (pS_cons (pS_ret (F_ix Q.d (rV v_items) (rE (F_call Q.d Q.n 1 rfl (callee__law_dealt m) (by decide) rfl (.cons (eV v_tin) True.intro (.cons (F_len Q.n 3 rfl m.f_len (rV v_items) True.intro) True.intro .nil)))) True.intro))
    pS_nil)
def F__law_picked : Fn := bodyFn 2 N_115.length b_115
theorem callee__law_picked {Pr : Program} {w : World} {K : PySem.W.Frag} {mg : Str → Option Value} {base : Heap} (m : Md Pr w K mg base) : Callee Pr w K mg base "_law_picked" 2 2 F__law_picked := by
  obtain ⟨hm, fd, F⟩ := m.d__law_picked
  exact callee_by (M := Md) F fs_115 hm (F.bindsN (ps := ["tin", "items"]) fun _ _ _ _ _ _ us hl => match us, hl with | [_, _], _ => rfl) rfl m (by decide +kernel) (by decide +kernel) body_115
/-! ### is_span -/
def N_34 : List Str := ["thing", "part"]
def L_34 : List (Str × Bool) := [("isinstance", false), ("thing", true), ("tuple", false), ("len", false), ("all", false)]
def W_34 : List Str := []
theorem fs_34 : FnScope N_34 ["thing"] sc_34 := ⟨rfl, rfl, rfl, by decide +kernel, rfl, by decide +kernel, by decide +kernel⟩
def b_34 : Sx := (sSeq (sIf (bOr [(bNot (bOf (xIsi "tuple" (rVar 0)))), (bOf (xCmp neS (rOf (xBlt lenS [(rVar 0)])) (rOf (xC (.int 2)))))])
    (sSeq (sRet (xC (.bool false)))
    sNil)
    sNil)
    (sSeq (sRet (xB (xAnd [(xBlt allS [(rOf (xLc (iSeq (xVar 0)) [1] (gV 1) bYes (xCall F_is_between [(xVar 1), (xC (.int 0)), (xC (.int 255))])))]), (xCmp leS (rOf (xIxA (rVar 0) (rOf (xC (.int 0))))) (rOf (xIxA (rVar 0) (rOf (xC (.int 1))))))])))
    sNil))
theorem body_34 (X : Cx) (Q : QX X 2 N_34 L_34 W_34 sc_34) (es : X.env.scope = sc_34) (m : MX Md X) : PSs X (defBody s_34) (tS (gd X) b_34) := by
  have v_thing : ∀ {p : Pos}, PE X (.Name "thing" p) (tVar 0) := fun {p} => Q.n.var 0 1 rfl rfl
  exact (pS_cons (pS_if (T_or (.cons (pC_not (T_val (F_isi Q.n 0 2 rfl m.f_isinstance rfl m.f_tuple bb_tuple nn_tuple (rV v_thing) True.intro) True.intro)) (.cons (F_ne Q.d (rE (F_len Q.n 3 rfl m.f_len (rV v_thing) True.intro)) (rE kI)).c .nil)))
    (pS_cons (pS_ret kB)
    pS_nil)
    pS_nil)
    (pS_cons (pS_ret (F_and (.cons (F_all Q.d Q.n 4 rfl m.f_all (rE (F_lc Q m [("part", 1)] [1] [("is_between", false), ("part", true), ("MOST_WORTH_codes", false)] ["part"] rfl (pI_seq (eV v_thing)) (by decide +kernel) (by decide +kernel) (by decide +kernel) (fun Y1 Q1 m1 => by
      have v_part_c1 : ∀ {p : Pos}, PE Y1 (.Name "part" p) (tVar 1) := fun {p} => Q1.n.var 1 1 rfl rfl
      have g_MOST_WORTH_codes_c1 : ∀ {p : Pos}, PE Y1 (.Name "MOST_WORTH_codes" p) (tC (V_MOST_WORTH_codes Y1.K)) := fun {p} => Q1.n.con 2 rfl m1.c_MOST_WORTH_codes
      exact ⟨(G_v (by decide) (G_n Q1.d Q1.n Q1.w 1 0 rfl rfl)), pTs_nil, (F_call Q1.d Q1.n 0 rfl (callee_is_between m1) (by decide) rfl (.cons (eV v_part_c1) True.intro (.cons kI True.intro (.cons (eC _ g_MOST_WORTH_codes_c1 rp_int) True.intro .nil))))⟩) True.intro)) True.intro) (.cons (F_le (rE (F_ix Q.d (rV v_thing) (rE kI) True.intro)) (rE (F_ix Q.d (rV v_thing) (rE kI) True.intro))).e .nil))))
    pS_nil))
def F_is_span : Fn := bodyFn 1 N_34.length b_34
theorem callee_is_span {Pr : Program} {w : World} {K : PySem.W.Frag} {mg : Str → Option Value} {base : Heap} (m : Md Pr w K mg base) : Callee Pr w K mg base "is_span" 3 1 F_is_span := by
  obtain ⟨hm, fd, F⟩ := m.d_is_span
  exact callee_by (M := Md) F fs_34 hm (F.bindsN (ps := ["thing"]) fun _ _ _ _ _ _ us hl => match us, hl with | [_], _ => rfl) rfl m (by decide +kernel) (by decide +kernel) body_34
/-! ### is_part -/
def N_36 : List Str := ["limits", "kind", "thing", "least", "most"]
def L_36 : List (Str × Bool) := [("limits", true), ("kind", true), ("is_between", false), ("thing", true), ("least", true), ("most", true)]
def W_36 : List Str := ["least", "most"]
theorem fs_36 : FnScope N_36 ["limits", "kind", "thing"] sc_36 := ⟨rfl, rfl, rfl, by decide +kernel, rfl, by decide +kernel, by decide +kernel⟩
def b_36 : Sx := (sSeq (sAsg (xIxA (rVar 0) (rVar 1)) (gT [(gV 3), (gV 4)]))
    (sSeq (sRet (xCall F_is_between [(xVar 2), (xVar 3), (xVar 4)]))
    sNil))
theorem body_36 (X : Cx) (Q : QX X 2 N_36 L_36 W_36 sc_36) (es : X.env.scope = sc_36) (m : MX Md X) : PSs X (defBody s_36) (tS (gd X) b_36) := by
  have v_limits : ∀ {p : Pos}, PE X (.Name "limits" p) (tVar 0) := fun {p} => Q.n.var 0 0 rfl rfl
  have v_kind : ∀ {p : Pos}, PE X (.Name "kind" p) (tVar 1) := fun {p} => Q.n.var 1 1 rfl rfl
  have v_thing : ∀ {p : Pos}, PE X (.Name "thing" p) (tVar 2) := fun {p} => Q.n.var 2 3 rfl rfl
  have v_least : ∀ {p : Pos}, PE X (.Name "least" p) (tVar 3) := fun {p} => Q.n.var 3 4 rfl rfl
  have v_most : ∀ {p : Pos}, PE X (.Name "most" p) (tVar 4) := fun {p} => Q.n.var 4 5 rfl rfl
  exact (pS_cons (S_asgN (vs := [3, 4]) (F_ix Q.d (rV v_limits) (rV v_kind) True.intro) (G_t Q.d (.cons (G_v (by decide) (G_n Q.d Q.n Q.w 3 0 rfl rfl)) True.intro (.cons (G_v (by decide) (G_n Q.d Q.n Q.w 4 1 rfl rfl)) True.intro .nil))) True.intro True.intro True.intro)
    (pS_cons (pS_ret (F_call Q.d Q.n 2 rfl (callee_is_between m) (by decide) rfl (.cons (eV v_thing) True.intro (.cons (eV v_least) True.intro (.cons (eV v_most) True.intro .nil)))))
    pS_nil))
def F_is_part : Fn := bodyFn 3 N_36.length b_36
theorem callee_is_part {Pr : Program} {w : World} {K : PySem.W.Frag} {mg : Str → Option Value} {base : Heap} (m : Md Pr w K mg base) : Callee Pr w K mg base "is_part" 3 3 F_is_part := by
  obtain ⟨hm, fd, F⟩ := m.d_is_part
  exact callee_by (M := Md) F fs_36 hm (F.bindsN (ps := ["limits", "kind", "thing"]) fun _ _ _ _ _ _ us hl => match us, hl with | [_, _, _], _ => rfl) rfl m (by decide +kernel) (by decide +kernel) body_36
/-! ### is_row_within -/
def N_63 : List Str := ["spans", "thing", "low", "high", "worth"]
def L_63 : List (Str × Bool) := [("isinstance", false), ("thing", true), ("tuple", false), ("len", false), ("spans", true), ("all", false), ("zip", false)]
def W_63 : List Str := []
theorem fs_63 : FnScope N_63 ["spans", "thing"] sc_63 := ⟨rfl, rfl, rfl, by decide +kernel, rfl, by decide +kernel, by decide +kernel⟩
def b_63 : Sx := (sSeq (sIf (bOr [(bNot (bOf (xIsi "tuple" (rVar 1)))), (bOf (xCmp neS (rOf (xBlt lenS [(rVar 1)])) (rOf (xBlt lenS [(rVar 0)]))))])
    (sSeq (sRet (xC (.bool false)))
    sNil)
    sNil)
    (sSeq (sRet (xBlt allS [(rOf (xLc (iZipP (xVar 0) (xVar 1)) [2, 3, 4] (gT [(gT [(gV 2), (gV 3)]), (gV 4)]) bYes (xB (xAnd [(xCall F_is_worth [(xVar 4)]), (xChain leS leS (rVar 2) (rVar 4) (rVar 3))]))))]))
    sNil))
theorem body_63 (X : Cx) (Q : QX X 2 N_63 L_63 W_63 sc_63) (es : X.env.scope = sc_63) (m : MX Md X) : PSs X (defBody s_63) (tS (gd X) b_63) := by
  have v_thing : ∀ {p : Pos}, PE X (.Name "thing" p) (tVar 1) := fun {p} => Q.n.var 1 1 rfl rfl
  have v_spans : ∀ {p : Pos}, PE X (.Name "spans" p) (tVar 0) := fun {p} => Q.n.var 0 4 rfl rfl
  exact (pS_cons (pS_if (T_or (.cons (pC_not (T_val (F_isi Q.n 0 2 rfl m.f_isinstance rfl m.f_tuple bb_tuple nn_tuple (rV v_thing) True.intro) True.intro)) (.cons (F_ne Q.d (rE (F_len Q.n 3 rfl m.f_len (rV v_thing) True.intro)) (rE (F_len Q.n 3 rfl m.f_len (rV v_spans) True.intro))).c .nil)))
    (pS_cons (pS_ret kB)
    pS_nil)
    pS_nil)
    (pS_cons (pS_ret (F_all Q.d Q.n 5 rfl m.f_all (rE (F_lc Q m [("low", 2), ("high", 3), ("worth", 4)] [2, 3, 4] [("is_worth", false), ("worth", true), ("low", true), ("high", true)] ["low", "high", "worth"] rfl (I_zip Q.n 6 rfl m.f_zip (eV v_spans) True.intro (eV v_thing) True.intro) (by decide +kernel) (by decide +kernel) (by decide +kernel) (fun Y1 Q1 m1 => by
      have v_worth_c1 : ∀ {p : Pos}, PE Y1 (.Name "worth" p) (tVar 4) := fun {p} => Q1.n.var 4 1 rfl rfl
      have v_low_c1 : ∀ {p : Pos}, PE Y1 (.Name "low" p) (tVar 2) := fun {p} => Q1.n.var 2 2 rfl rfl
      have v_high_c1 : ∀ {p : Pos}, PE Y1 (.Name "high" p) (tVar 3) := fun {p} => Q1.n.var 3 3 rfl rfl
      exact ⟨(G_t Q1.d (.cons (G_t Q1.d (.cons (G_v (by decide) (G_n Q1.d Q1.n Q1.w 2 0 rfl rfl)) True.intro (.cons (G_v (by decide) (G_n Q1.d Q1.n Q1.w 3 1 rfl rfl)) True.intro .nil))) True.intro (.cons (G_v (by decide) (G_n Q1.d Q1.n Q1.w 4 2 rfl rfl)) True.intro .nil))), pTs_nil, (F_and (.cons (F_call Q1.d Q1.n 0 rfl (callee_is_worth m1) (by decide) rfl (.cons (eV v_worth_c1) True.intro .nil)) (.cons (F_lele (rV v_low_c1) (rV v_worth_c1) (rV v_high_c1)).e .nil)))⟩) True.intro)) True.intro))
    pS_nil))
def F_is_row_within_plain : Fn := bodyFn 2 N_63.length b_63
theorem callee_is_row_within_plain {Pr : Program} {w : World} {K : PySem.W.Frag} {mg : Str → Option Value} {base : Heap} (m : Md Pr w K mg base) : Callee Pr w K mg base "is_row_within_plain" 3 2 F_is_row_within_plain := by
  obtain ⟨hm, fd, F⟩ := m.d_is_row_within_plain
  exact callee_by (M := Md) F fs_63 hm (F.bindsN (ps := ["spans", "thing"]) fun _ _ _ _ _ _ us hl => match us, hl with | [_, _], _ => rfl) rfl m (by decide +kernel) (by decide +kernel) body_63
/-! ### standing_behind -/
def N_90 : List Str := ["row", "standing", "registers", "arrays", "give"]
def L_90 : List (Str × Bool) := [("standing", true), ("gives_by", false), ("row", true), ("give", true), ("with_span", false), ("registers", true), ("span_given", false), ("arrays", true), ("joined_span", false)]
def W_90 : List Str := ["registers", "arrays", "give"]
theorem fs_90 : FnScope N_90 ["row", "standing"] sc_90 := ⟨rfl, rfl, rfl, by decide +kernel, rfl, by decide +kernel, by decide +kernel⟩
def b_90 : Sx := (sSeq (sAsg (xVar 1) (gT [(gV 2), (gV 3)]))
    (sSeq (sSet 4 (xCall F_gives_by [(xVar 0)]))
    (sSeq (sIf (bOf (xNone true (rVar 4)))
    (sSeq (sRet (xTup [(false, (xCall F_with_span [(xVar 2), (xVar 4), (xCall F_span_given [(xVar 0), (xVar 1)])])), (false, (xVar 3))]))
    sNil)
    sNil)
    (sSeq (sIf (bOf (xCmp eqS (rOf (xIxA (rVar 0) (rOf (xC (.int 0))))) (rOf (xC (.str "put")))))
    (sSeq (sRet (xTup [(false, (xVar 2)), (false, (xCall F_with_span [(xVar 3), (xIxA (rVar 0) (rOf (xC (.int 1)))), (xCall F_joined_span [(xIxA (rVar 3) (rOf (xIxA (rVar 0) (rOf (xC (.int 1)))))), (xIxA (rVar 2) (rOf (xIxA (rVar 0) (rOf (xC (.int 3))))))])]))]))
    sNil)
    sNil)
    (sSeq (sRetV 1)
    sNil)))))
theorem body_90 (X : Cx) (Q : QX X 2 N_90 L_90 W_90 sc_90) (es : X.env.scope = sc_90) (m : MX Md X) : PSs X (defBody s_90) (tS (gd X) b_90) := by
  have v_standing : ∀ {p : Pos}, PE X (.Name "standing" p) (tVar 1) := fun {p} => Q.n.var 1 0 rfl rfl
  have v_row : ∀ {p : Pos}, PE X (.Name "row" p) (tVar 0) := fun {p} => Q.n.var 0 2 rfl rfl
  have v_give : ∀ {p : Pos}, PE X (.Name "give" p) (tVar 4) := fun {p} => Q.n.var 4 3 rfl rfl
  have v_registers : ∀ {p : Pos}, PE X (.Name "registers" p) (tVar 2) := fun {p} => Q.n.var 2 5 rfl rfl
  have v_arrays : ∀ {p : Pos}, PE X (.Name "arrays" p) (tVar 3) := fun {p} => Q.n.var 3 7 rfl rfl
  exact (pS_cons (S_asgN (vs := [2, 3]) (eV v_standing) (G_t Q.d (.cons (G_v (by decide) (G_n Q.d Q.n Q.w 2 0 rfl rfl)) True.intro (.cons (G_v (by decide) (G_n Q.d Q.n Q.w 3 1 rfl rfl)) True.intro .nil))) True.intro True.intro True.intro)
    (pS_cons (S_set Q.d Q.n Q.w 4 2 rfl rfl (F_call Q.d Q.n 1 rfl (callee_gives_by m) (by decide) rfl (.cons (eV v_row) True.intro .nil)) True.intro)
    (pS_cons (pS_if (F_notN (rV v_give)).c
    (pS_cons (pS_ret (F_tup (.cons (F_call Q.d Q.n 4 rfl (callee_with_span m) (by decide) rfl (.cons (eV v_registers) True.intro (.cons (eV v_give) True.intro (.cons (F_call Q.d Q.n 6 rfl (callee_span_given m) (by decide) rfl (.cons (eV v_row) True.intro (.cons (eV v_standing) True.intro .nil))) True.intro .nil)))) True.intro (.cons (eV v_arrays) True.intro .nil))))
    pS_nil)
    pS_nil)
    (pS_cons (pS_if (F_eq Q.d (rE (F_ix Q.d (rV v_row) (rE kI) True.intro)) (rE kS)).c
    (pS_cons (pS_ret (F_tup (.cons (eV v_registers) True.intro (.cons (F_call Q.d Q.n 4 rfl (callee_with_span m) (by decide) rfl (.cons (eV v_arrays) True.intro (.cons (F_ix Q.d (rV v_row) (rE kI) True.intro) True.intro (.cons (F_call Q.d Q.n 8 rfl (callee_joined_span m) (by decide) rfl (.cons (F_ix Q.d (rV v_arrays) (rE (F_ix Q.d (rV v_row) (rE kI) True.intro)) True.intro) True.intro (.cons (F_ix Q.d (rV v_registers) (rE (F_ix Q.d (rV v_row) (rE kI) True.intro)) True.intro) True.intro .nil))) True.intro .nil)))) True.intro .nil))))
    pS_nil)
    pS_nil)
    (pS_cons (pS_retV v_standing)
    pS_nil)))))
def F_standing_behind : Fn := bodyFn 2 N_90.length b_90
theorem callee_standing_behind {Pr : Program} {w : World} {K : PySem.W.Frag} {mg : Str → Option Value} {base : Heap} (m : Md Pr w K mg base) : Callee Pr w K mg base "standing_behind" 3 2 F_standing_behind := by
  obtain ⟨hm, fd, F⟩ := m.d_standing_behind
  exact callee_by (M := Md) F fs_90 hm (F.bindsN (ps := ["row", "standing"]) fun _ _ _ _ _ _ us hl => match us, hl with | [_, _], _ => rfl) rfl m (by decide +kernel) (by decide +kernel) body_90
/-! ### is_span_of -/
def N_100 : List Str := ["thing", "one"]
def L_100 : List (Str × Bool) := [("isinstance", false), ("thing", true), ("tuple", false), ("len", false), ("all", false)]
def W_100 : List Str := []
theorem fs_100 : FnScope N_100 ["thing"] sc_100 := ⟨rfl, rfl, rfl, by decide +kernel, rfl, by decide +kernel, by decide +kernel⟩
def b_100 : Sx := (sSeq (sIf (bOr [(bNot (bOf (xIsi "tuple" (rVar 0)))), (bOf (xCmp neS (rOf (xBlt lenS [(rVar 0)])) (rOf (xC (.int 2))))), (bNot (bOf (xBlt allS [(rOf (xLc (iSeq (xVar 0)) [1] (gV 1) bYes (xCall F_is_worth [(xVar 1)])))])))])
    (sSeq (sRet (xC (.bool false)))
    sNil)
    sNil)
    (sSeq (sRet (xCmp leS (rOf (xIxA (rVar 0) (rOf (xC (.int 0))))) (rOf (xIxA (rVar 0) (rOf (xC (.int 1)))))))
    sNil))
theorem body_100 (X : Cx) (Q : QX X 2 N_100 L_100 W_100 sc_100) (es : X.env.scope = sc_100) (m : MX Md X) : PSs X (defBody s_100) (tS (gd X) b_100) := by
  have v_thing : ∀ {p : Pos}, PE X (.Name "thing" p) (tVar 0) := fun {p} => Q.n.var 0 1 rfl rfl
  exact (pS_cons (pS_if (T_or (.cons (pC_not (T_val (F_isi Q.n 0 2 rfl m.f_isinstance rfl m.f_tuple bb_tuple nn_tuple (rV v_thing) True.intro) True.intro)) (.cons (F_ne Q.d (rE (F_len Q.n 3 rfl m.f_len (rV v_thing) True.intro)) (rE kI)).c (.cons (pC_not (T_val (F_all Q.d Q.n 4 rfl m.f_all (rE (F_lc Q m [("one", 1)] [1] [("is_worth", false), ("one", true)] ["one"] rfl (pI_seq (eV v_thing)) (by decide +kernel) (by decide +kernel) (by decide +kernel) (fun Y1 Q1 m1 => by
      have v_one_c1 : ∀ {p : Pos}, PE Y1 (.Name "one" p) (tVar 1) := fun {p} => Q1.n.var 1 1 rfl rfl
      exact ⟨(G_v (by decide) (G_n Q1.d Q1.n Q1.w 1 0 rfl rfl)), pTs_nil, (F_call Q1.d Q1.n 0 rfl (callee_is_worth m1) (by decide) rfl (.cons (eV v_one_c1) True.intro .nil))⟩) True.intro)) True.intro) True.intro)) .nil))))
    (pS_cons (pS_ret kB)
    pS_nil)
    pS_nil)
    (pS_cons (pS_ret (F_le (rE (F_ix Q.d (rV v_thing) (rE kI) True.intro)) (rE (F_ix Q.d (rV v_thing) (rE kI) True.intro))).e)
    pS_nil))
def F_is_span_of : Fn := bodyFn 1 N_100.length b_100
theorem callee_is_span_of {Pr : Program} {w : World} {K : PySem.W.Frag} {mg : Str → Option Value} {base : Heap} (m : Md Pr w K mg base) : Callee Pr w K mg base "is_span_of" 3 1 F_is_span_of := by
  obtain ⟨hm, fd, F⟩ := m.d_is_span_of
  exact callee_by (M := Md) F fs_100 hm (F.bindsN (ps := ["thing"]) fun _ _ _ _ _ _ us hl => match us, hl with | [_], _ => rfl) rfl m (by decide +kernel) (by decide +kernel) body_100
/-! ### is_row_within -/
def N_37 : List Str := ["limits", "thing", "word", "parts", "kinds", "part", "kind"]
def L_37 : List (Str × Bool) := [("isinstance", false), ("thing", true), ("tuple", false), ("len", false), ("str", false), ("FORMS", false), ("word", true), ("parts", true), ("kinds", true), ("all", false), ("zip", false)]
def W_37 : List Str := ["word", "parts", "kinds"]
theorem fs_37 : FnScope N_37 ["limits", "thing"] sc_37 := ⟨rfl, rfl, rfl, by decide +kernel, rfl, by decide +kernel, by decide +kernel⟩
def b_37 : Sx := (sSeq (sIf (bOr [(bNot (bOf (xIsi "tuple" (rVar 1)))), (bOf (xCmp eqS (rOf (xBlt lenS [(rVar 1)])) (rOf (xC (.int 0))))), (bNot (bOf (xIsi "str" (rOf (xIxA (rVar 1) (rOf (xC (.int 0)))))))), (bOf (xKIn true T_FORMS (rOf (xIxA (rVar 1) (rOf (xC (.int 0)))))))])
    (sSeq (sRet (xC (.bool false)))
    sNil)
    sNil)
    (sSeq (sAsg (xVar 1) (gStar 2 3))
    (sSeq (sSet 4 (xKIx T_FORMS (rVar 2)))
    (sSeq (sIf (bOf (xCmp neS (rOf (xBlt lenS [(rVar 3)])) (rOf (xBlt lenS [(rVar 4)]))))
    (sSeq (sRet (xC (.bool false)))
    sNil)
    sNil)
    (sSeq (sRet (xBlt allS [(rOf (xLc (iZipP (xVar 3) (xVar 4)) [5, 6] (gT [(gV 5), (gV 6)]) bYes (xCall F_is_part [(xVar 0), (xVar 6), (xVar 5)])))]))
    sNil)))))
theorem body_37 (X : Cx) (Q : QX X 3 N_37 L_37 W_37 sc_37) (es : X.env.scope = sc_37) (m : MX Md X) : PSs X (defBody s_37) (tS (gd X) b_37) := by
  have v_thing : ∀ {p : Pos}, PE X (.Name "thing" p) (tVar 1) := fun {p} => Q.n.var 1 1 rfl rfl
  have g_FORMS : ∀ {p : Pos}, PE X (.Name "FORMS" p) (tC (V_FORMS X.K)) := fun {p} => Q.n.con 5 rfl m.c_FORMS
  have v_word : ∀ {p : Pos}, PE X (.Name "word" p) (tVar 2) := fun {p} => Q.n.var 2 6 rfl rfl
  have v_parts : ∀ {p : Pos}, PE X (.Name "parts" p) (tVar 3) := fun {p} => Q.n.var 3 7 rfl rfl
  have v_kinds : ∀ {p : Pos}, PE X (.Name "kinds" p) (tVar 4) := fun {p} => Q.n.var 4 8 rfl rfl
  exact (pS_cons (pS_if (T_or (.cons (pC_not (T_val (F_isi Q.n 0 2 rfl m.f_isinstance rfl m.f_tuple bb_tuple nn_tuple (rV v_thing) True.intro) True.intro)) (.cons (F_eq Q.d (rE (F_len Q.n 3 rfl m.f_len (rV v_thing) True.intro)) (rE kI)).c (.cons (pC_not (T_val (F_isi Q.n 0 4 rfl m.f_isinstance rfl m.f_str bb_str nn_str (rE (F_ix Q.d (rV v_thing) (rE kI) True.intro)) True.intro) True.intro)) (.cons (F_knin m.t_FORMS g_FORMS (rE (F_ix Q.d (rV v_thing) (rE kI) True.intro)) True.intro).c .nil)))))
    (pS_cons (pS_ret kB)
    pS_nil)
    pS_nil)
    (pS_cons (S_asgN (vs := [2, 3]) (eV v_thing) (G_star Q.d (G_n Q.d Q.n Q.w 2 0 rfl rfl) (G_n Q.d Q.n Q.w 3 1 rfl rfl) (by decide) (by decide)) True.intro True.intro True.intro)
    (pS_cons (S_set Q.d Q.n Q.w 4 2 rfl rfl (F_kix m.t_FORMS g_FORMS (rV v_word) True.intro) True.intro)
    (pS_cons (pS_if (F_ne Q.d (rE (F_len Q.n 3 rfl m.f_len (rV v_parts) True.intro)) (rE (F_len Q.n 3 rfl m.f_len (rV v_kinds) True.intro))).c
    (pS_cons (pS_ret kB)
    pS_nil)
    pS_nil)
    (pS_cons (pS_ret (F_all Q.d Q.n 9 rfl m.f_all (rE (F_lc Q m [("part", 5), ("kind", 6)] [5, 6] [("is_part", false), ("limits", true), ("kind", true), ("part", true)] ["part", "kind"] rfl (I_zip Q.n 10 rfl m.f_zip (eV v_parts) True.intro (eV v_kinds) True.intro) (by decide +kernel) (by decide +kernel) (by decide +kernel) (fun Y1 Q1 m1 => by
      have v_limits_c1 : ∀ {p : Pos}, PE Y1 (.Name "limits" p) (tVar 0) := fun {p} => Q1.n.var 0 1 rfl rfl
      have v_kind_c1 : ∀ {p : Pos}, PE Y1 (.Name "kind" p) (tVar 6) := fun {p} => Q1.n.var 6 2 rfl rfl
      have v_part_c1 : ∀ {p : Pos}, PE Y1 (.Name "part" p) (tVar 5) := fun {p} => Q1.n.var 5 3 rfl rfl
      exact ⟨(G_t Q1.d (.cons (G_v (by decide) (G_n Q1.d Q1.n Q1.w 5 0 rfl rfl)) True.intro (.cons (G_v (by decide) (G_n Q1.d Q1.n Q1.w 6 1 rfl rfl)) True.intro .nil))), pTs_nil, (F_call Q1.d Q1.n 0 rfl (callee_is_part m1) (by decide) rfl (.cons (eV v_limits_c1) True.intro (.cons (eV v_kind_c1) True.intro (.cons (eV v_part_c1) True.intro .nil))))⟩) True.intro)) True.intro))
    pS_nil)))))
def F_is_row_within_codes : Fn := bodyFn 2 N_37.length b_37
theorem callee_is_row_within_codes {Pr : Program} {w : World} {K : PySem.W.Frag} {mg : Str → Option Value} {base : Heap} (m : Md Pr w K mg base) : Callee Pr w K mg base "is_row_within_codes" 4 2 F_is_row_within_codes := by
  obtain ⟨hm, fd, F⟩ := m.d_is_row_within_codes
  exact callee_by (M := Md) F fs_37 hm (F.bindsN (ps := ["limits", "thing"]) fun _ _ _ _ _ _ us hl => match us, hl with | [_, _], _ => rfl) rfl m (by decide +kernel) (by decide +kernel) body_37
/-! ### led_standings -/
def N_91 : List Str := ["rows", "at", "standing", "row", "behind", "low", "high", "found", "to"]
def L_91 : List (Str × Bool) := [("rows", true), ("at", true), ("row", true), ("standing_behind", false), ("standing", true), ("ways_by", false), ("high", true), ("found", true), ("with_span", false), ("max", false), ("low", true), ("NOUGHT", false)]
def W_91 : List Str := ["row", "behind", "low", "high", "found"]
theorem fs_91 : FnScope N_91 ["rows", "at", "standing"] sc_91 := ⟨rfl, rfl, rfl, by decide +kernel, rfl, by decide +kernel, by decide +kernel⟩
def b_91 : Sx := (sSeq (sSet 3 (xIxA (rVar 0) (rVar 1)))
    (sSeq (sIf (bOf (xCmp neS (rOf (xIxA (rVar 3) (rOf (xC (.int 0))))) (rOf (xC (.str "test")))))
    (sSeq (sSet 4 (xCall F_standing_behind [(xVar 3), (xVar 2)]))
    (sSeq (sRet (xLc (iSeq (xCall F_ways_by [(xVar 0), (xVar 1)])) [8] (gV 8) bYes (xTup [(false, (xVar 8)), (false, (xVar 4))])))
    sNil))
    sNil)
    (sSeq (sAsg (xIxA (rOf (xIxA (rVar 2) (rOf (xC (.int 0))))) (rOf (xIxA (rVar 3) (rOf (xC (.int 1)))))) (gT [(gV 5), (gV 6)]))
    (sSeq (sSet 7 (xLst []))
    (sSeq (sIf (bOf (xCmp gtS (rVar 6) (rOf (xC (.int 0)))))
    (sSeq (sApp 7 (xTup [(false, (xBin addP (rVar 1) (rOf (xC (.int 1))))), (false, (xTup [(false, (xCall F_with_span [(xIxA (rVar 2) (rOf (xC (.int 0)))), (xIxA (rVar 3) (rOf (xC (.int 1)))), (xTup [(false, (xBlt max2S [(rVar 5), (rOf (xC (.int 1)))])), (false, (xVar 6))])])), (false, (xIxA (rVar 2) (rOf (xC (.int 1)))))]))]))
    sNil)
    sNil)
    (sSeq (sIf (bOf (xCmp eqS (rVar 5) (rOf (xC (.int 0)))))
    (sSeq (sApp 7 (xTup [(false, (xIxA (rVar 3) (rOf (xC (.int 2))))), (false, (xTup [(false, (xCall F_with_span [(xIxA (rVar 2) (rOf (xC (.int 0)))), (xIxA (rVar 3) (rOf (xC (.int 1)))), (xC P_NOUGHT)])), (false, (xIxA (rVar 2) (rOf (xC (.int 1)))))]))]))
    sNil)
    sNil)
    (sSeq (sRetV 7)
    sNil)))))))
theorem body_91 (X : Cx) (Q : QX X 3 N_91 L_91 W_91 sc_91) (es : X.env.scope = sc_91) (m : MX Md X) : PSs X (defBody s_91) (tS (gd X) b_91) := by
  have v_rows : ∀ {p : Pos}, PE X (.Name "rows" p) (tVar 0) := fun {p} => Q.n.var 0 0 rfl rfl
  have v_at : ∀ {p : Pos}, PE X (.Name "at" p) (tVar 1) := fun {p} => Q.n.var 1 1 rfl rfl
  have v_row : ∀ {p : Pos}, PE X (.Name "row" p) (tVar 3) := fun {p} => Q.n.var 3 2 rfl rfl
  have v_standing : ∀ {p : Pos}, PE X (.Name "standing" p) (tVar 2) := fun {p} => Q.n.var 2 4 rfl rfl
  have v_high : ∀ {p : Pos}, PE X (.Name "high" p) (tVar 6) := fun {p} => Q.n.var 6 6 rfl rfl
  have v_found : ∀ {p : Pos}, PE X (.Name "found" p) (tVar 7) := fun {p} => Q.n.var 7 7 rfl rfl
  have v_low : ∀ {p : Pos}, PE X (.Name "low" p) (tVar 5) := fun {p} => Q.n.var 5 10 rfl rfl
  have g_NOUGHT : ∀ {p : Pos}, PE X (.Name "NOUGHT" p) (tC (V_NOUGHT X.K)) := fun {p} => Q.n.con 11 rfl m.c_NOUGHT
  exact (pS_cons (S_set Q.d Q.n Q.w 3 0 rfl rfl (F_ix Q.d (rV v_rows) (rV v_at) True.intro) True.intro)
    (pS_cons (pS_if (F_ne Q.d (rE (F_ix Q.d (rV v_row) (rE kI) True.intro)) (rE kS)).c
    (pS_cons (S_set Q.d Q.n Q.w 4 1 rfl rfl (F_call Q.d Q.n 3 rfl (callee_standing_behind m) (by decide) rfl (.cons (eV v_row) True.intro (.cons (eV v_standing) True.intro .nil))) True.intro)
    (pS_cons (pS_ret (F_lc Q m [("to", 8)] [8] [("to", true), ("behind", true)] ["to"] rfl (pI_seq (F_call Q.d Q.n 5 rfl (callee_ways_by m) (by decide) rfl (.cons (eV v_rows) True.intro (.cons (eV v_at) True.intro .nil)))) (by decide +kernel) (by decide +kernel) (by decide +kernel) (fun Y1 Q1 m1 => by
      have v_to_c1 : ∀ {p : Pos}, PE Y1 (.Name "to" p) (tVar 8) := fun {p} => Q1.n.var 8 0 rfl rfl
      have v_behind_c1 : ∀ {p : Pos}, PE Y1 (.Name "behind" p) (tVar 4) := fun {p} => Q1.n.var 4 1 rfl rfl
      exact ⟨(G_v (by decide) (G_n Q1.d Q1.n Q1.w 8 0 rfl rfl)), pTs_nil, (F_tup (.cons (eV v_to_c1) True.intro (.cons (eV v_behind_c1) True.intro .nil)))⟩) True.intro))
    pS_nil))
    pS_nil)
    (pS_cons (S_asgN (vs := [5, 6]) (F_ix Q.d (rE (F_ix Q.d (rV v_standing) (rE kI) True.intro)) (rE (F_ix Q.d (rV v_row) (rE kI) True.intro)) True.intro) (G_t Q.d (.cons (G_v (by decide) (G_n Q.d Q.n Q.w 5 2 rfl rfl)) True.intro (.cons (G_v (by decide) (G_n Q.d Q.n Q.w 6 3 rfl rfl)) True.intro .nil))) True.intro True.intro True.intro)
    (pS_cons (S_set Q.d Q.n Q.w 7 4 rfl rfl (F_lst .nil) True.intro)
    (pS_cons (pS_if (F_gt (rV v_high) (rE kI)).c
    (pS_cons (S_app v_found (F_tup (.cons (F_add (rV v_at) (rE kI)) True.intro (.cons (F_tup (.cons (F_call Q.d Q.n 8 rfl (callee_with_span m) (by decide) rfl (.cons (F_ix Q.d (rV v_standing) (rE kI) True.intro) True.intro (.cons (F_ix Q.d (rV v_row) (rE kI) True.intro) True.intro (.cons (F_tup (.cons (F_max2 Q.d Q.n 9 rfl m.f_max (rV v_low) True.intro (rE kI) True.intro) True.intro (.cons (eV v_high) True.intro .nil))) True.intro .nil)))) True.intro (.cons (F_ix Q.d (rV v_standing) (rE kI) True.intro) True.intro .nil))) True.intro .nil))) True.intro rfl)
    pS_nil)
    pS_nil)
    (pS_cons (pS_if (F_eq Q.d (rV v_low) (rE kI)).c
    (pS_cons (S_app v_found (F_tup (.cons (F_ix Q.d (rV v_row) (rE kI) True.intro) True.intro (.cons (F_tup (.cons (F_call Q.d Q.n 8 rfl (callee_with_span m) (by decide) rfl (.cons (F_ix Q.d (rV v_standing) (rE kI) True.intro) True.intro (.cons (F_ix Q.d (rV v_row) (rE kI) True.intro) True.intro (.cons (eCk _ g_NOUGHT m.r_NOUGHT) True.intro .nil)))) True.intro (.cons (F_ix Q.d (rV v_standing) (rE kI) True.intro) True.intro .nil))) True.intro .nil))) True.intro rfl)
    pS_nil)
    pS_nil)
    (pS_cons (pS_retV v_found)
    pS_nil)))))))
def F_led_standings : Fn := bodyFn 3 N_91.length b_91
theorem callee_led_standings {Pr : Program} {w : World} {K : PySem.W.Frag} {mg : Str → Option Value} {base : Heap} (m : Md Pr w K mg base) : Callee Pr w K mg base "led_standings" 4 3 F_led_standings := by
  obtain ⟨hm, fd, F⟩ := m.d_led_standings
  exact callee_by (M := Md) F fs_91 hm (F.bindsN (ps := ["rows", "at", "standing"]) fun _ _ _ _ _ _ us hl => match us, hl with | [_, _, _], _ => rfl) rfl m (by decide +kernel) (by decide +kernel) body_91
/-! ### are_spans -/
def N_101 : List Str := ["thing", "many", "span"]
def L_101 : List (Str × Bool) := [("isinstance", false), ("thing", true), ("tuple", false), ("len", false), ("many", true), ("all", false)]
def W_101 : List Str := []
theorem fs_101 : FnScope N_101 ["thing", "many"] sc_101 := ⟨rfl, rfl, rfl, by decide +kernel, rfl, by decide +kernel, by decide +kernel⟩
def b_101 : Sx := (sSeq (sRet (xB (xAnd [(xIsi "tuple" (rVar 0)), (xCmp eqS (rOf (xBlt lenS [(rVar 0)])) (rVar 1)), (xBlt allS [(rOf (xLc (iSeq (xVar 0)) [2] (gV 2) bYes (xCall F_is_span_of [(xVar 2)])))])])))
    sNil)
theorem body_101 (X : Cx) (Q : QX X 3 N_101 L_101 W_101 sc_101) (es : X.env.scope = sc_101) (m : MX Md X) : PSs X (defBody s_101) (tS (gd X) b_101) := by
  have v_thing : ∀ {p : Pos}, PE X (.Name "thing" p) (tVar 0) := fun {p} => Q.n.var 0 1 rfl rfl
  have v_many : ∀ {p : Pos}, PE X (.Name "many" p) (tVar 1) := fun {p} => Q.n.var 1 4 rfl rfl
  exact (pS_cons (pS_ret (F_and (.cons (F_isi Q.n 0 2 rfl m.f_isinstance rfl m.f_tuple bb_tuple nn_tuple (rV v_thing) True.intro) (.cons (F_eq Q.d (rE (F_len Q.n 3 rfl m.f_len (rV v_thing) True.intro)) (rV v_many)).e (.cons (F_all Q.d Q.n 5 rfl m.f_all (rE (F_lc Q m [("span", 2)] [2] [("is_span_of", false), ("span", true)] ["span"] rfl (pI_seq (eV v_thing)) (by decide +kernel) (by decide +kernel) (by decide +kernel) (fun Y1 Q1 m1 => by
      have v_span_c1 : ∀ {p : Pos}, PE Y1 (.Name "span" p) (tVar 2) := fun {p} => Q1.n.var 2 1 rfl rfl
      exact ⟨(G_v (by decide) (G_n Q1.d Q1.n Q1.w 2 0 rfl rfl)), pTs_nil, (F_call Q1.d Q1.n 0 rfl (callee_is_span_of m1) (by decide) rfl (.cons (eV v_span_c1) True.intro .nil))⟩) True.intro)) True.intro) .nil)))))
    pS_nil)
def F_are_spans : Fn := bodyFn 2 N_101.length b_101
theorem callee_are_spans {Pr : Program} {w : World} {K : PySem.W.Frag} {mg : Str → Option Value} {base : Heap} (m : Md Pr w K mg base) : Callee Pr w K mg base "are_spans" 4 2 F_are_spans := by
  obtain ⟨hm, fd, F⟩ := m.d_are_spans
  exact callee_by (M := Md) F fs_101 hm (F.bindsN (ps := ["thing", "many"]) fun _ _ _ _ _ _ us hl => match us, hl with | [_, _], _ => rfl) rfl m (by decide +kernel) (by decide +kernel) body_101
/-! ### need_span -/
def N_104 : List Str := ["span"]
def L_104 : List (Str × Bool) := [("is_span_of", false), ("span", true), ("NoNumber", false)]
def W_104 : List Str := []
theorem fs_104 : FnScope N_104 ["span"] sc_104 := ⟨rfl, rfl, rfl, by decide +kernel, rfl, by decide +kernel, by decide +kernel⟩
def b_104 : SxX := (seqX (ifX (bNot (bOf (xCall F_is_span_of [(xVar 0)])))
    (seqX (sRsF "NoNumber" "number" (xVar 0))
    (lift sNil))
    (lift sNil))
    (lift sNil))
theorem body_104 (X : Cx) (E : WX) (tk : Takes X E) (Q : QX X 3 N_104 L_104 W_104 sc_104) (es : X.env.scope = sc_104) (m : MX Md X) : PSs X (defBody s_104) (tX (gd X) E b_104) := by
  have v_span : ∀ {p : Pos}, PE X (.Name "span" p) (tVar 0) := fun {p} => Q.n.var 0 1 rfl rfl
  exact (pX_cons (pX_if (pC_not (T_val (F_call Q.d Q.n 0 rfl (callee_is_span_of m) (by decide) rfl (.cons (eV v_span) True.intro .nil)) True.intro))
    (pX_cons (X_raiseF Q.d Q.n tk 2 rfl (m.x_NoNumber) (by decide) (eV v_span) True.intro)
    (pXs_lift pS_nil))
    (pXs_lift pS_nil))
    (pXs_lift pS_nil))
def F_need_span : FnX := bodyX 1 N_104.length b_104
theorem callee_need_span {Pr : Program} {w : World} {K : PySem.W.Frag} {mg : Str → Option Value} {base : Heap} (m : Md Pr w K mg base) : CalleeX Pr w K mg base "need_span" 4 1 F_need_span := by
  obtain ⟨hm, fd, F⟩ := m.d_need_span
  exact calleeX_by (M := Md) F fs_104 hm (F.bindsN (ps := ["span"]) fun _ _ _ _ _ _ us hl => match us, hl with | [_], _ => rfl) rfl m (by decide +kernel) (by decide +kernel) body_104
def F_need_span_rt : Fn := rtFn F_need_span
theorem callee_need_span_rt {Pr : Program} {w : World} {K : PySem.W.Frag} {mg : Str → Option Value} {base : Heap} (m : Md Pr w K mg base) : Callee Pr w K mg base "need_span" 4 1 F_need_span_rt := (callee_need_span m).rt
/-! ### are_rows -/
def N_44 : List Str := ["limits", "rows", "loops", "row", "at"]
def L_44 : List (Str × Bool) := [("isinstance", false), ("rows", true), ("tuple", false), ("len", false), ("MOST_ROWS", false), ("all", false), ("enumerate", false), ("loops_by", false), ("are_loops", false), ("loops", true), ("are_jumps", false)]
def W_44 : List Str := ["loops"]
theorem fs_44 : FnScope N_44 ["limits", "rows"] sc_44 := ⟨rfl, rfl, rfl, by decide +kernel, rfl, by decide +kernel, by decide +kernel⟩
def b_44 : Sx := (sSeq (sIf (bOr [(bNot (bOf (xIsi "tuple" (rVar 1)))), (bNot (bOf (xChain leS leS (rOf (xC (.int 1))) (rOf (xBlt lenS [(rVar 1)])) (rOf (xC (.int 60))))))])
    (sSeq (sRet (xC (.bool false)))
    sNil)
    sNil)
    (sSeq (sIf (bNot (bOf (xBlt allS [(rOf (xLc (iSeq (xVar 1)) [3] (gV 3) bYes (xCall F_is_row_within_codes [(xVar 0), (xVar 3)])))])))
    (sSeq (sRet (xC (.bool false)))
    sNil)
    sNil)
    (sSeq (sIf (bOf (xCmp neS (rOf (xLc (iEnum (xVar 1)) [4, 3] (gT [(gV 4), (gV 3)]) (bOf (xCmp eqS (rOf (xIxA (rVar 3) (rOf (xC (.int 0))))) (rOf (xC (.str "end"))))) (xVar 4))) (rOf (xLst [(false, (xBin subP (rOf (xBlt lenS [(rVar 1)])) (rOf (xC (.int 1)))))]))))
    (sSeq (sRet (xC (.bool false)))
    sNil)
    sNil)
    (sSeq (sSet 2 (xCall F_loops_by [(xVar 1)]))
    (sSeq (sRet (xB (xAnd [(xCall F_are_loops [(xVar 1), (xVar 2)]), (xCall F_are_jumps [(xVar 1), (xVar 2)])])))
    sNil)))))
theorem body_44 (X : Cx) (Q : QX X 4 N_44 L_44 W_44 sc_44) (es : X.env.scope = sc_44) (m : MX Md X) : PSs X (defBody s_44) (tS (gd X) b_44) := by
  have v_rows : ∀ {p : Pos}, PE X (.Name "rows" p) (tVar 1) := fun {p} => Q.n.var 1 1 rfl rfl
  have g_MOST_ROWS : ∀ {p : Pos}, PE X (.Name "MOST_ROWS" p) (tC (V_MOST_ROWS X.K)) := fun {p} => Q.n.con 4 rfl m.c_MOST_ROWS
  have v_loops : ∀ {p : Pos}, PE X (.Name "loops" p) (tVar 2) := fun {p} => Q.n.var 2 9 rfl rfl
  exact (pS_cons (pS_if (T_or (.cons (pC_not (T_val (F_isi Q.n 0 2 rfl m.f_isinstance rfl m.f_tuple bb_tuple nn_tuple (rV v_rows) True.intro) True.intro)) (.cons (pC_not (F_lele (rE kI) (rE (F_len Q.n 3 rfl m.f_len (rV v_rows) True.intro)) (rE (eC _ g_MOST_ROWS rp_int))).c) .nil)))
    (pS_cons (pS_ret kB)
    pS_nil)
    pS_nil)
    (pS_cons (pS_if (pC_not (T_val (F_all Q.d Q.n 5 rfl m.f_all (rE (F_lc Q m [("row", 3)] [3] [("is_row_within_codes", false), ("limits", true), ("row", true)] ["row"] rfl (pI_seq (eV v_rows)) (by decide +kernel) (by decide +kernel) (by decide +kernel) (fun Y1 Q1 m1 => by
      have v_limits_c1 : ∀ {p : Pos}, PE Y1 (.Name "limits" p) (tVar 0) := fun {p} => Q1.n.var 0 1 rfl rfl
      have v_row_c1 : ∀ {p : Pos}, PE Y1 (.Name "row" p) (tVar 3) := fun {p} => Q1.n.var 3 2 rfl rfl
      exact ⟨(G_v (by decide) (G_n Q1.d Q1.n Q1.w 3 0 rfl rfl)), pTs_nil, (F_call Q1.d Q1.n 0 rfl (callee_is_row_within_codes m1) (by decide) rfl (.cons (eV v_limits_c1) True.intro (.cons (eV v_row_c1) True.intro .nil)))⟩) True.intro)) True.intro) True.intro))
    (pS_cons (pS_ret kB)
    pS_nil)
    pS_nil)
    (pS_cons (pS_if (F_ne Q.d (rE (F_lc Q m [("at", 4), ("row", 3)] [4, 3] [("row", true), ("at", true)] ["at", "row"] rfl (I_enum Q.n 6 rfl m.f_enumerate (eV v_rows) True.intro) (by decide +kernel) (by decide +kernel) (by decide +kernel) (fun Y2 Q2 m2 => by
      have v_row_c2 : ∀ {p : Pos}, PE Y2 (.Name "row" p) (tVar 3) := fun {p} => Q2.n.var 3 0 rfl rfl
      have v_at_c2 : ∀ {p : Pos}, PE Y2 (.Name "at" p) (tVar 4) := fun {p} => Q2.n.var 4 1 rfl rfl
      exact ⟨(G_t Q2.d (.cons (G_v (by decide) (G_n Q2.d Q2.n Q2.w 4 0 rfl rfl)) True.intro (.cons (G_v (by decide) (G_n Q2.d Q2.n Q2.w 3 1 rfl rfl)) True.intro .nil))), (pTs_one (F_eq Q2.d (rE (F_ix Q2.d (rV v_row_c2) (rE kI) True.intro)) (rE kS)).c), (eV v_at_c2)⟩) True.intro)) (rE (F_lst (.cons (F_sub (rE (F_len Q.n 3 rfl m.f_len (rV v_rows) True.intro)) (rE kI)) True.intro .nil)))).c
    (pS_cons (pS_ret kB)
    pS_nil)
    pS_nil)
    (pS_cons (S_set Q.d Q.n Q.w 2 0 rfl rfl (F_call Q.d Q.n 7 rfl (callee_loops_by m) (by decide) rfl (.cons (eV v_rows) True.intro .nil)) True.intro)
    (pS_cons (pS_ret (F_and (.cons (F_call Q.d Q.n 8 rfl (callee_are_loops m) (by decide) rfl (.cons (eV v_rows) True.intro (.cons (eV v_loops) True.intro .nil))) (.cons (F_call Q.d Q.n 10 rfl (callee_are_jumps m) (by decide) rfl (.cons (eV v_rows) True.intro (.cons (eV v_loops) True.intro .nil))) .nil))))
    pS_nil)))))
def F_are_rows : Fn := bodyFn 2 N_44.length b_44
theorem callee_are_rows {Pr : Program} {w : World} {K : PySem.W.Frag} {mg : Str → Option Value} {base : Heap} (m : Md Pr w K mg base) : Callee Pr w K mg base "are_rows" 5 2 F_are_rows := by
  obtain ⟨hm, fd, F⟩ := m.d_are_rows
  exact callee_by (M := Md) F fs_44 hm (F.bindsN (ps := ["limits", "rows"]) fun _ _ _ _ _ _ us hl => match us, hl with | [_, _], _ => rfl) rfl m (by decide +kernel) (by decide +kernel) body_44
/-! ### least_sheet -/
def N_94 : List Str := ["code", "rows", "found", "waiting", "at", "to", "standing", "later"]
def L_94 : List (Str × Bool) := [("code", true), ("begin_standing", false), ("waiting", true), ("led_standings", false), ("rows", true), ("at", true), ("found", true), ("to", true), ("joined_standing", false), ("standing", true), ("later", true), ("tuple", false), ("range", false), ("len", false)]
def W_94 : List Str := ["waiting", "found", "rows", "at", "to", "standing", "later"]
theorem fs_94 : FnScope N_94 ["code"] sc_94 := ⟨rfl, rfl, rfl, by decide +kernel, rfl, by decide +kernel, by decide +kernel⟩
def b_94 : Sx := (sSeq (sPar [1, 2, 3] [(xIxA (rVar 0) (rOf (xC (.int 4)))), (xDisp [((xC (.int 0)), (xCall F_begin_standing [(xVar 0)]))]), (xLst [(false, (xC (.int 0)))])])
    (sSeq (sWhileN 200 (bOf (xCmp neS (rVar 3) (rOf (xLst []))))
    (sSeq (sPop 4 3)
    (sSeq (sFor (iSeq (xCall F_led_standings [(xVar 1), (xVar 4), (xIxA (rVar 2) (rVar 4))])) (gT [(gV 5), (gV 6)])
    (sSeq (sSet 7 (xIf (bOf (xCmp (inS false) (rVar 5) (rVar 2))) (xCall F_joined_standing [(xIxA (rVar 2) (rVar 5)), (xVar 6)]) (xVar 6)))
    (sSeq (sIf (bOr [(bOf (xCmp (inS true) (rVar 5) (rVar 2))), (bOf (xCmp neS (rVar 7) (rOf (xIxA (rVar 2) (rVar 5)))))])
    (sSeq (sAsg (xVar 7) (gPut 2 (rVar 5)))
    (sSeq (sApp 3 (xVar 5))
    sNil))
    sNil)
    sNil)))
    sNil)))
    (sSeq (sRet (xBlt tupS [(rOf (xLc (iRng [(xBlt lenS [(rVar 1)])]) [4] (gV 4) bYes (xGet 2 (rVar 4))))]))
    sNil)))
theorem body_94 (X : Cx) (Q : QX X 4 N_94 L_94 W_94 sc_94) (es : X.env.scope = sc_94) (m : MX Md X) : PSs X (defBody s_94) (tS (gd X) b_94) := by
  have v_code : ∀ {p : Pos}, PE X (.Name "code" p) (tVar 0) := fun {p} => Q.n.var 0 0 rfl rfl
  have v_waiting : ∀ {p : Pos}, PE X (.Name "waiting" p) (tVar 3) := fun {p} => Q.n.var 3 2 rfl rfl
  have v_rows : ∀ {p : Pos}, PE X (.Name "rows" p) (tVar 1) := fun {p} => Q.n.var 1 4 rfl rfl
  have v_at : ∀ {p : Pos}, PE X (.Name "at" p) (tVar 4) := fun {p} => Q.n.var 4 5 rfl rfl
  have v_found : ∀ {p : Pos}, PE X (.Name "found" p) (tVar 2) := fun {p} => Q.n.var 2 6 rfl rfl
  have v_to : ∀ {p : Pos}, PE X (.Name "to" p) (tVar 5) := fun {p} => Q.n.var 5 7 rfl rfl
  have v_standing : ∀ {p : Pos}, PE X (.Name "standing" p) (tVar 6) := fun {p} => Q.n.var 6 9 rfl rfl
  have v_later : ∀ {p : Pos}, PE X (.Name "later" p) (tVar 7) := fun {p} => Q.n.var 7 10 rfl rfl
  exact (pS_cons (S_parT Q.d es (.cons (G_n Q.d Q.n Q.w 1 2 rfl rfl) (by decide) (.cons (G_n Q.d Q.n Q.w 2 1 rfl rfl) (by decide) (.cons (G_n Q.d Q.n Q.w 3 0 rfl rfl) (by decide) .nil))) (.cons (F_ix Q.d (rV v_code) (rE kI) True.intro) True.intro (.cons (pE_disp (.cons kI (F_call Q.d Q.n 1 rfl (callee_begin_standing m) (by decide) rfl (.cons (eV v_code) True.intro .nil)) .nil) rfl rfl (by decide) (by decide)) True.intro (.cons (F_lst (.cons kI True.intro .nil)) True.intro .nil))) (by decide) rfl)
    (pS_cons (S_while Q.d 200 (F_ne Q.d (rV v_waiting) (rE (F_lst .nil))).c
    (pS_cons (S_pop Q.d Q.n Q.w 4 3 3 rfl rfl v_waiting rfl)
    (pS_cons (S_for (vs := [5, 6]) Q.d (pI_seq (F_call Q.d Q.n 3 rfl (callee_led_standings m) (by decide) rfl (.cons (eV v_rows) True.intro (.cons (eV v_at) True.intro (.cons (F_ix Q.d (rV v_found) (rV v_at) True.intro) True.intro .nil))))) (G_t Q.d (.cons (G_v (by decide) (G_n Q.d Q.n Q.w 5 4 rfl rfl)) True.intro (.cons (G_v (by decide) (G_n Q.d Q.n Q.w 6 5 rfl rfl)) True.intro .nil)))
    (pS_cons (S_set Q.d Q.n Q.w 7 6 rfl rfl (pE_if (F_in Q.d (rV v_to) (rV v_found) True.intro).c (F_call Q.d Q.n 8 rfl (callee_joined_standing m) (by decide) rfl (.cons (F_ix Q.d (rV v_found) (rV v_to) True.intro) True.intro (.cons (eV v_standing) True.intro .nil))) (eV v_standing)) True.intro)
    (pS_cons (pS_if (T_or (.cons (F_nin Q.d (rV v_to) (rV v_found) True.intro).c (.cons (F_ne Q.d (rV v_later) (rE (F_ix Q.d (rV v_found) (rV v_to) True.intro))).c .nil)))
    (pS_cons (S_put Q.d v_found (rV v_to) (eV v_later) True.intro True.intro)
    (pS_cons (S_app v_waiting (eV v_to) True.intro rfl)
    pS_nil))
    pS_nil)
    pS_nil)) True.intro)
    pS_nil)))
    (pS_cons (pS_ret (F_tuple Q.n 11 rfl m.f_tuple (rE (F_lc Q m [("at", 4)] [4] [("found", true), ("at", true)] ["at"] rfl (I_rng1 Q.n 12 rfl m.f_range (F_len Q.n 13 rfl m.f_len (rV v_rows) True.intro) True.intro) (by decide +kernel) (by decide +kernel) (by decide +kernel) (fun Y1 Q1 m1 => by
      have v_found_c1 : ∀ {p : Pos}, PE Y1 (.Name "found" p) (tVar 2) := fun {p} => Q1.n.var 2 0 rfl rfl
      have v_at_c1 : ∀ {p : Pos}, PE Y1 (.Name "at" p) (tVar 4) := fun {p} => Q1.n.var 4 1 rfl rfl
      exact ⟨(G_v (by decide) (G_n Q1.d Q1.n Q1.w 4 0 rfl rfl)), pTs_nil, (F_get Q1.d v_found_c1 (rV v_at_c1) True.intro rfl)⟩) True.intro)) True.intro))
    pS_nil)))
def F_least_sheet : Fn := bodyFn 1 N_94.length b_94
theorem callee_least_sheet {Pr : Program} {w : World} {K : PySem.W.Frag} {mg : Str → Option Value} {base : Heap} (m : Md Pr w K mg base) : Callee Pr w K mg base "least_sheet" 5 1 F_least_sheet := by
  obtain ⟨hm, fd, F⟩ := m.d_least_sheet
  exact callee_by (M := Md) F fs_94 hm (F.bindsN (ps := ["code"]) fun _ _ _ _ _ _ us hl => match us, hl with | [_], _ => rfl) rfl m (by decide +kernel) (by decide +kernel) body_94
/-! ### does_hold -/
def N_95 : List Str := ["code", "sheet", "at", "standing", "to", "led"]
def L_95 : List (Str × Bool) := [("sheet", true), ("lies_within", false), ("begin_standing", false), ("code", true), ("enumerate", false), ("standing", true), ("led_standings", false), ("at", true), ("to", true), ("led", true)]
def W_95 : List Str := ["at", "standing", "to", "led"]
theorem fs_95 : FnScope N_95 ["code", "sheet"] sc_95 := ⟨rfl, rfl, rfl, by decide +kernel, rfl, by decide +kernel, by decide +kernel⟩
def b_95 : Sx := (sSeq (sIf (bOr [(bOf (xNone false (rOf (xIxA (rVar 1) (rOf (xC (.int 0))))))), (bNot (bOf (xCall F_lies_within [(xCall F_begin_standing [(xVar 0)]), (xIxA (rVar 1) (rOf (xC (.int 0))))])))])
    (sSeq (sRet (xC (.bool false)))
    sNil)
    sNil)
    (sSeq (sFor (iEnum (xVar 1)) (gT [(gV 2), (gV 3)])
    (sSeq (sIf (bOf (xNone true (rVar 3)))
    (sSeq (sFor (iSeq (xCall F_led_standings [(xIxA (rVar 0) (rOf (xC (.int 4)))), (xVar 2), (xVar 3)])) (gT [(gV 4), (gV 5)])
    (sSeq (sIf (bOr [(bOf (xNone false (rOf (xIxA (rVar 1) (rVar 4))))), (bNot (bOf (xCall F_lies_within [(xVar 5), (xIxA (rVar 1) (rVar 4))])))])
    (sSeq (sRet (xC (.bool false)))
    sNil)
    sNil)
    sNil))
    sNil)
    sNil)
    sNil))
    (sSeq (sRet (xC (.bool true)))
    sNil)))
theorem body_95 (X : Cx) (Q : QX X 4 N_95 L_95 W_95 sc_95) (es : X.env.scope = sc_95) (m : MX Md X) : PSs X (defBody s_95) (tS (gd X) b_95) := by
  have v_sheet : ∀ {p : Pos}, PE X (.Name "sheet" p) (tVar 1) := fun {p} => Q.n.var 1 0 rfl rfl
  have v_code : ∀ {p : Pos}, PE X (.Name "code" p) (tVar 0) := fun {p} => Q.n.var 0 3 rfl rfl
  have v_standing : ∀ {p : Pos}, PE X (.Name "standing" p) (tVar 3) := fun {p} => Q.n.var 3 5 rfl rfl
  have v_at : ∀ {p : Pos}, PE X (.Name "at" p) (tVar 2) := fun {p} => Q.n.var 2 7 rfl rfl
  have v_to : ∀ {p : Pos}, PE X (.Name "to" p) (tVar 4) := fun {p} => Q.n.var 4 8 rfl rfl
  have v_led : ∀ {p : Pos}, PE X (.Name "led" p) (tVar 5) := fun {p} => Q.n.var 5 9 rfl rfl
  exact (pS_cons (pS_if (T_or (.cons (F_isN (rE (F_ix Q.d (rV v_sheet) (rE kI) True.intro))).c (.cons (pC_not (T_val (F_call Q.d Q.n 1 rfl (callee_lies_within m) (by decide) rfl (.cons (F_call Q.d Q.n 2 rfl (callee_begin_standing m) (by decide) rfl (.cons (eV v_code) True.intro .nil)) True.intro (.cons (F_ix Q.d (rV v_sheet) (rE kI) True.intro) True.intro .nil))) True.intro)) .nil)))
    (pS_cons (pS_ret kB)
    pS_nil)
    pS_nil)
    (pS_cons (S_for (vs := [2, 3]) Q.d (I_enum Q.n 4 rfl m.f_enumerate (eV v_sheet) True.intro) (G_t Q.d (.cons (G_v (by decide) (G_n Q.d Q.n Q.w 2 0 rfl rfl)) True.intro (.cons (G_v (by decide) (G_n Q.d Q.n Q.w 3 1 rfl rfl)) True.intro .nil)))
    (pS_cons (pS_if (F_notN (rV v_standing)).c
    (pS_cons (S_for (vs := [4, 5]) Q.d (pI_seq (F_call Q.d Q.n 6 rfl (callee_led_standings m) (by decide) rfl (.cons (F_ix Q.d (rV v_code) (rE kI) True.intro) True.intro (.cons (eV v_at) True.intro (.cons (eV v_standing) True.intro .nil))))) (G_t Q.d (.cons (G_v (by decide) (G_n Q.d Q.n Q.w 4 2 rfl rfl)) True.intro (.cons (G_v (by decide) (G_n Q.d Q.n Q.w 5 3 rfl rfl)) True.intro .nil)))
    (pS_cons (pS_if (T_or (.cons (F_isN (rE (F_ix Q.d (rV v_sheet) (rV v_to) True.intro))).c (.cons (pC_not (T_val (F_call Q.d Q.n 1 rfl (callee_lies_within m) (by decide) rfl (.cons (eV v_led) True.intro (.cons (F_ix Q.d (rV v_sheet) (rV v_to) True.intro) True.intro .nil))) True.intro)) .nil)))
    (pS_cons (pS_ret kB)
    pS_nil)
    pS_nil)
    pS_nil) True.intro)
    pS_nil)
    pS_nil)
    pS_nil) True.intro)
    (pS_cons (pS_ret kB)
    pS_nil)))
def F_does_hold : Fn := bodyFn 2 N_95.length b_95
theorem callee_does_hold {Pr : Program} {w : World} {K : PySem.W.Frag} {mg : Str → Option Value} {base : Heap} (m : Md Pr w K mg base) : Callee Pr w K mg base "does_hold" 5 2 F_does_hold := by
  obtain ⟨hm, fd, F⟩ := m.d_does_hold
  exact callee_by (M := Md) F fs_95 hm (F.bindsN (ps := ["code", "sheet"]) fun _ _ _ _ _ _ us hl => match us, hl with | [_, _], _ => rfl) rfl m (by decide +kernel) (by decide +kernel) body_95
/-! ### is_standing -/
def N_102 : List Str := ["code", "thing"]
def L_102 : List (Str × Bool) := [("isinstance", false), ("thing", true), ("tuple", false), ("len", false), ("are_spans", false), ("code", true)]
def W_102 : List Str := []
theorem fs_102 : FnScope N_102 ["code", "thing"] sc_102 := ⟨rfl, rfl, rfl, by decide +kernel, rfl, by decide +kernel, by decide +kernel⟩
def b_102 : Sx := (sSeq (sIf (bOr [(bNot (bOf (xIsi "tuple" (rVar 1)))), (bOf (xCmp neS (rOf (xBlt lenS [(rVar 1)])) (rOf (xC (.int 2)))))])
    (sSeq (sRet (xC (.bool false)))
    sNil)
    sNil)
    (sSeq (sRet (xB (xAnd [(xCall F_are_spans [(xIxA (rVar 1) (rOf (xC (.int 0)))), (xIxA (rVar 0) (rOf (xC (.int 1))))]), (xCall F_are_spans [(xIxA (rVar 1) (rOf (xC (.int 1)))), (xBlt lenS [(rOf (xIxA (rVar 0) (rOf (xC (.int 3)))))])])])))
    sNil))
theorem body_102 (X : Cx) (Q : QX X 4 N_102 L_102 W_102 sc_102) (es : X.env.scope = sc_102) (m : MX Md X) : PSs X (defBody s_102) (tS (gd X) b_102) := by
  have v_thing : ∀ {p : Pos}, PE X (.Name "thing" p) (tVar 1) := fun {p} => Q.n.var 1 1 rfl rfl
  have v_code : ∀ {p : Pos}, PE X (.Name "code" p) (tVar 0) := fun {p} => Q.n.var 0 5 rfl rfl
  exact (pS_cons (pS_if (T_or (.cons (pC_not (T_val (F_isi Q.n 0 2 rfl m.f_isinstance rfl m.f_tuple bb_tuple nn_tuple (rV v_thing) True.intro) True.intro)) (.cons (F_ne Q.d (rE (F_len Q.n 3 rfl m.f_len (rV v_thing) True.intro)) (rE kI)).c .nil)))
    (pS_cons (pS_ret kB)
    pS_nil)
    pS_nil)
    (pS_cons (pS_ret (F_and (.cons (F_call Q.d Q.n 4 rfl (callee_are_spans m) (by decide) rfl (.cons (F_ix Q.d (rV v_thing) (rE kI) True.intro) True.intro (.cons (F_ix Q.d (rV v_code) (rE kI) True.intro) True.intro .nil))) (.cons (F_call Q.d Q.n 4 rfl (callee_are_spans m) (by decide) rfl (.cons (F_ix Q.d (rV v_thing) (rE kI) True.intro) True.intro (.cons (F_len Q.n 3 rfl m.f_len (rE (F_ix Q.d (rV v_code) (rE kI) True.intro)) True.intro) True.intro .nil))) .nil))))
    pS_nil))
def F_is_standing : Fn := bodyFn 2 N_102.length b_102
theorem callee_is_standing {Pr : Program} {w : World} {K : PySem.W.Frag} {mg : Str → Option Value} {base : Heap} (m : Md Pr w K mg base) : Callee Pr w K mg base "is_standing" 5 2 F_is_standing := by
  obtain ⟨hm, fd, F⟩ := m.d_is_standing
  exact callee_by (M := Md) F fs_102 hm (F.bindsN (ps := ["code", "thing"]) fun _ _ _ _ _ _ us hl => match us, hl with | [_, _], _ => rfl) rfl m (by decide +kernel) (by decide +kernel) body_102
/-! ### span_made -/
def N_108 : List Str := ["op", "one", "other"]
def L_108 : List (Str × Bool) := [("isinstance", false), ("op", true), ("str", false), ("is_op", false), ("NoNumber", false), ("need_span", false), ("one", true), ("other", true)]
def W_108 : List Str := []
theorem fs_108 : FnScope N_108 ["op", "one", "other"] sc_108 := ⟨rfl, rfl, rfl, by decide +kernel, rfl, by decide +kernel, by decide +kernel⟩
def b_108 : SxX := (seqX (ifX (bOr [(bNot (bOf (xIsi "str" (rVar 0)))), (bNot (bOf (xCall F_is_op [(xVar 0)])))])
    (seqX (sRsF "NoNumber" "number" (xVar 0))
    (lift sNil))
    (lift sNil))
    (seqX (sExpX (xCallX F_need_span [(xVar 1)]))
    (seqX (sExpX (xCallX F_need_span [(xVar 2)]))
    (seqX (lift (sRet xNever))
    (lift sNil)))))
theorem body_108 (X : Cx) (E : WX) (tk : Takes X E) (Q : QX X 4 N_108 L_108 W_108 sc_108) (es : X.env.scope = sc_108) (m : MX Md X) : PSs X (defBody s_108) (tX (gd X) E b_108) := by
  have v_op : ∀ {p : Pos}, PE X (.Name "op" p) (tVar 0) := fun {p} => Q.n.var 0 1 rfl rfl
  have v_one : ∀ {p : Pos}, PE X (.Name "one" p) (tVar 1) := fun {p} => Q.n.var 1 6 rfl rfl
  have v_other : ∀ {p : Pos}, PE X (.Name "other" p) (tVar 2) := fun {p} => Q.n.var 2 7 rfl rfl
  exact (pX_cons (pX_if (T_or (.cons (pC_not (T_val (F_isi Q.n 0 2 rfl m.f_isinstance rfl m.f_str bb_str nn_str (rV v_op) True.intro) True.intro)) (.cons (pC_not (T_val (F_call Q.d Q.n 3 rfl (callee_is_op m) (by decide) rfl (.cons (eV v_op) True.intro .nil)) True.intro)) .nil)))
    (pX_cons (X_raiseF Q.d Q.n tk 4 rfl (m.x_NoNumber) (by decide) (eV v_op) True.intro)
    (pXs_lift pS_nil))
    (pXs_lift pS_nil))
    (pX_cons (pX_exp (X_call Q.d Q.n tk 5 rfl (callee_need_span m) (by decide) rfl (.cons (eV v_one) True.intro .nil)) rfl)
    (pX_cons (pX_exp (X_call Q.d Q.n tk 5 rfl (callee_need_span m) (by decide) rfl (.cons (eV v_other) True.intro .nil)) rfl)
    (pX_cons (pX_lift (pS_ret pE_never))
    (pXs_lift pS_nil)))))
def F_span_made : FnX := bodyX 3 N_108.length b_108
theorem callee_span_made {Pr : Program} {w : World} {K : PySem.W.Frag} {mg : Str → Option Value} {base : Heap} (m : Md Pr w K mg base) : CalleeX Pr w K mg base "span_made" 5 3 F_span_made := by
  obtain ⟨hm, fd, F⟩ := m.d_span_made
  exact calleeX_by (M := Md) F fs_108 hm (F.bindsN (ps := ["op", "one", "other"]) fun _ _ _ _ _ _ us hl => match us, hl with | [_, _, _], _ => rfl) rfl m (by decide +kernel) (by decide +kernel) body_108
def F_span_made_rt : Fn := rtFn F_span_made
theorem callee_span_made_rt {Pr : Program} {w : World} {K : PySem.W.Frag} {mg : Str → Option Value} {base : Heap} (m : Md Pr w K mg base) : Callee Pr w K mg base "span_made" 5 3 F_span_made_rt := (callee_span_made m).rt
/-! ### is_code -/
def N_45 : List Str := ["thing", "asks", "many", "shown", "arrays", "rows", "ask", "size"]
def L_45 : List (Str × Bool) := [("isinstance", false), ("thing", true), ("tuple", false), ("len", false), ("asks", true), ("MOST_ASKS", false), ("all", false), ("is_between", false), ("many", true), ("max", false), ("MOST_MANY", false), ("shown", true), ("arrays", true), ("rows", true), ("are_rows", false), ("limits_of", false)]
def W_45 : List Str := ["asks", "many", "shown", "arrays", "rows"]
theorem fs_45 : FnScope N_45 ["thing"] sc_45 := ⟨rfl, rfl, rfl, by decide +kernel, rfl, by decide +kernel, by decide +kernel⟩
def b_45 : Sx := (sSeq (sIf (bOr [(bNot (bOf (xIsi "tuple" (rVar 0)))), (bOf (xCmp neS (rOf (xBlt lenS [(rVar 0)])) (rOf (xC (.int 5)))))])
    (sSeq (sRet (xC (.bool false)))
    sNil)
    sNil)
    (sSeq (sAsg (xVar 0) (gT [(gV 1), (gV 2), (gV 3), (gV 4), (gV 5)]))
    (sSeq (sIf (bOr [(bNot (bOf (xIsi "tuple" (rVar 1)))), (bOf (xCmp gtS (rOf (xBlt lenS [(rVar 1)])) (rOf (xC (.int 3))))), (bNot (bOf (xBlt allS [(rOf (xLc (iSeq (xVar 1)) [6] (gV 6) bYes (xCall F_is_span [(xVar 6)])))])))])
    (sSeq (sRet (xC (.bool false)))
    sNil)
    sNil)
    (sSeq (sIf (bOr [(bNot (bOf (xCall F_is_between [(xVar 2), (xBlt max2S [(rOf (xC (.int 1))), (rOf (xBlt lenS [(rVar 1)]))]), (xC (.int 16))]))), (bNot (bOf (xCall F_is_between [(xVar 3), (xC (.int 0)), (xVar 2)])))])
    (sSeq (sRet (xC (.bool false)))
    sNil)
    sNil)
    (sSeq (sIf (bOr [(bNot (bOf (xIsi "tuple" (rVar 4)))), (bOf (xCmp gtS (rOf (xBlt lenS [(rVar 4)])) (rOf (xC (.int 2))))), (bNot (bOf (xIsi "tuple" (rVar 5))))])
    (sSeq (sRet (xC (.bool false)))
    sNil)
    sNil)
    (sSeq (sIf (bNot (bOf (xBlt allS [(rOf (xLc (iSeq (xVar 4)) [7] (gV 7) bYes (xCall F_is_between [(xVar 7), (xC (.int 1)), (xC (.int 6))])))])))
    (sSeq (sRet (xC (.bool false)))
    sNil)
    sNil)
    (sSeq (sRet (xCall F_are_rows [(xCall F_limits_of [(xVar 2), (xVar 4), (xVar 5)]), (xVar 5)]))
    sNil)))))))
theorem body_45 (X : Cx) (Q : QX X 5 N_45 L_45 W_45 sc_45) (es : X.env.scope = sc_45) (m : MX Md X) : PSs X (defBody s_45) (tS (gd X) b_45) := by
  have v_thing : ∀ {p : Pos}, PE X (.Name "thing" p) (tVar 0) := fun {p} => Q.n.var 0 1 rfl rfl
  have v_asks : ∀ {p : Pos}, PE X (.Name "asks" p) (tVar 1) := fun {p} => Q.n.var 1 4 rfl rfl
  have g_MOST_ASKS : ∀ {p : Pos}, PE X (.Name "MOST_ASKS" p) (tC (V_MOST_ASKS X.K)) := fun {p} => Q.n.con 5 rfl m.c_MOST_ASKS
  have v_many : ∀ {p : Pos}, PE X (.Name "many" p) (tVar 2) := fun {p} => Q.n.var 2 8 rfl rfl
  have g_MOST_MANY : ∀ {p : Pos}, PE X (.Name "MOST_MANY" p) (tC (V_MOST_MANY X.K)) := fun {p} => Q.n.con 10 rfl m.c_MOST_MANY
  have v_shown : ∀ {p : Pos}, PE X (.Name "shown" p) (tVar 3) := fun {p} => Q.n.var 3 11 rfl rfl
  have v_arrays : ∀ {p : Pos}, PE X (.Name "arrays" p) (tVar 4) := fun {p} => Q.n.var 4 12 rfl rfl
  have v_rows : ∀ {p : Pos}, PE X (.Name "rows" p) (tVar 5) := fun {p} => Q.n.var 5 13 rfl rfl
  exact (pS_cons (pS_if (T_or (.cons (pC_not (T_val (F_isi Q.n 0 2 rfl m.f_isinstance rfl m.f_tuple bb_tuple nn_tuple (rV v_thing) True.intro) True.intro)) (.cons (F_ne Q.d (rE (F_len Q.n 3 rfl m.f_len (rV v_thing) True.intro)) (rE kI)).c .nil)))
    (pS_cons (pS_ret kB)
    pS_nil)
    pS_nil)
    (pS_cons (S_asgN (vs := [1, 2, 3, 4, 5]) (eV v_thing) (G_t Q.d (.cons (G_v (by decide) (G_n Q.d Q.n Q.w 1 0 rfl rfl)) True.intro (.cons (G_v (by decide) (G_n Q.d Q.n Q.w 2 1 rfl rfl)) True.intro (.cons (G_v (by decide) (G_n Q.d Q.n Q.w 3 2 rfl rfl)) True.intro (.cons (G_v (by decide) (G_n Q.d Q.n Q.w 4 3 rfl rfl)) True.intro (.cons (G_v (by decide) (G_n Q.d Q.n Q.w 5 4 rfl rfl)) True.intro .nil)))))) True.intro True.intro True.intro)
    (pS_cons (pS_if (T_or (.cons (pC_not (T_val (F_isi Q.n 0 2 rfl m.f_isinstance rfl m.f_tuple bb_tuple nn_tuple (rV v_asks) True.intro) True.intro)) (.cons (F_gt (rE (F_len Q.n 3 rfl m.f_len (rV v_asks) True.intro)) (rE (eC _ g_MOST_ASKS rp_int))).c (.cons (pC_not (T_val (F_all Q.d Q.n 6 rfl m.f_all (rE (F_lc Q m [("ask", 6)] [6] [("is_span", false), ("ask", true)] ["ask"] rfl (pI_seq (eV v_asks)) (by decide +kernel) (by decide +kernel) (by decide +kernel) (fun Y1 Q1 m1 => by
      have v_ask_c1 : ∀ {p : Pos}, PE Y1 (.Name "ask" p) (tVar 6) := fun {p} => Q1.n.var 6 1 rfl rfl
      exact ⟨(G_v (by decide) (G_n Q1.d Q1.n Q1.w 6 0 rfl rfl)), pTs_nil, (F_call Q1.d Q1.n 0 rfl (callee_is_span m1) (by decide) rfl (.cons (eV v_ask_c1) True.intro .nil))⟩) True.intro)) True.intro) True.intro)) .nil))))
    (pS_cons (pS_ret kB)
    pS_nil)
    pS_nil)
    (pS_cons (pS_if (T_or (.cons (pC_not (T_val (F_call Q.d Q.n 7 rfl (callee_is_between m) (by decide) rfl (.cons (eV v_many) True.intro (.cons (F_max2 Q.d Q.n 9 rfl m.f_max (rE kI) True.intro (rE (F_len Q.n 3 rfl m.f_len (rV v_asks) True.intro)) True.intro) True.intro (.cons (eC _ g_MOST_MANY rp_int) True.intro .nil)))) True.intro)) (.cons (pC_not (T_val (F_call Q.d Q.n 7 rfl (callee_is_between m) (by decide) rfl (.cons (eV v_shown) True.intro (.cons kI True.intro (.cons (eV v_many) True.intro .nil)))) True.intro)) .nil)))
    (pS_cons (pS_ret kB)
    pS_nil)
    pS_nil)
    (pS_cons (pS_if (T_or (.cons (pC_not (T_val (F_isi Q.n 0 2 rfl m.f_isinstance rfl m.f_tuple bb_tuple nn_tuple (rV v_arrays) True.intro) True.intro)) (.cons (F_gt (rE (F_len Q.n 3 rfl m.f_len (rV v_arrays) True.intro)) (rE kI)).c (.cons (pC_not (T_val (F_isi Q.n 0 2 rfl m.f_isinstance rfl m.f_tuple bb_tuple nn_tuple (rV v_rows) True.intro) True.intro)) .nil))))
    (pS_cons (pS_ret kB)
    pS_nil)
    pS_nil)
    (pS_cons (pS_if (pC_not (T_val (F_all Q.d Q.n 6 rfl m.f_all (rE (F_lc Q m [("size", 7)] [7] [("is_between", false), ("size", true), ("MOST_SIZE", false)] ["size"] rfl (pI_seq (eV v_arrays)) (by decide +kernel) (by decide +kernel) (by decide +kernel) (fun Y2 Q2 m2 => by
      have v_size_c2 : ∀ {p : Pos}, PE Y2 (.Name "size" p) (tVar 7) := fun {p} => Q2.n.var 7 1 rfl rfl
      have g_MOST_SIZE_c2 : ∀ {p : Pos}, PE Y2 (.Name "MOST_SIZE" p) (tC (V_MOST_SIZE Y2.K)) := fun {p} => Q2.n.con 2 rfl m2.c_MOST_SIZE
      exact ⟨(G_v (by decide) (G_n Q2.d Q2.n Q2.w 7 0 rfl rfl)), pTs_nil, (F_call Q2.d Q2.n 0 rfl (callee_is_between m2) (by decide) rfl (.cons (eV v_size_c2) True.intro (.cons kI True.intro (.cons (eC _ g_MOST_SIZE_c2 rp_int) True.intro .nil))))⟩) True.intro)) True.intro) True.intro))
    (pS_cons (pS_ret kB)
    pS_nil)
    pS_nil)
    (pS_cons (pS_ret (F_call Q.d Q.n 14 rfl (callee_are_rows m) (by decide) rfl (.cons (F_call Q.d Q.n 15 rfl (callee_limits_of m) (by decide) rfl (.cons (eV v_many) True.intro (.cons (eV v_arrays) True.intro (.cons (eV v_rows) True.intro .nil)))) True.intro (.cons (eV v_rows) True.intro .nil))))
    pS_nil)))))))
def F_is_code : Fn := bodyFn 1 N_45.length b_45
theorem callee_is_code {Pr : Program} {w : World} {K : PySem.W.Frag} {mg : Str → Option Value} {base : Heap} (m : Md Pr w K mg base) : Callee Pr w K mg base "is_code" 6 1 F_is_code := by
  obtain ⟨hm, fd, F⟩ := m.d_is_code
  exact callee_by (M := Md) F fs_45 hm (F.bindsN (ps := ["thing"]) fun _ _ _ _ _ _ us hl => match us, hl with | [_], _ => rfl) rfl m (by decide +kernel) (by decide +kernel) body_45
/-! ### is_sheet_of_spans -/
def N_103 : List Str := ["code", "thing", "standing"]
def L_103 : List (Str × Bool) := [("isinstance", false), ("thing", true), ("tuple", false), ("len", false), ("code", true), ("all", false)]
def W_103 : List Str := []
theorem fs_103 : FnScope N_103 ["code", "thing"] sc_103 := ⟨rfl, rfl, rfl, by decide +kernel, rfl, by decide +kernel, by decide +kernel⟩
def b_103 : Sx := (sSeq (sIf (bOr [(bNot (bOf (xIsi "tuple" (rVar 1)))), (bOf (xCmp neS (rOf (xBlt lenS [(rVar 1)])) (rOf (xBlt lenS [(rOf (xIxA (rVar 0) (rOf (xC (.int 4)))))]))))])
    (sSeq (sRet (xC (.bool false)))
    sNil)
    sNil)
    (sSeq (sRet (xBlt allS [(rOf (xLc (iSeq (xVar 1)) [2] (gV 2) bYes (xB (xOr [(xNone false (rVar 2)), (xCall F_is_standing [(xVar 0), (xVar 2)])]))))]))
    sNil))
theorem body_103 (X : Cx) (Q : QX X 5 N_103 L_103 W_103 sc_103) (es : X.env.scope = sc_103) (m : MX Md X) : PSs X (defBody s_103) (tS (gd X) b_103) := by
  have v_thing : ∀ {p : Pos}, PE X (.Name "thing" p) (tVar 1) := fun {p} => Q.n.var 1 1 rfl rfl
  have v_code : ∀ {p : Pos}, PE X (.Name "code" p) (tVar 0) := fun {p} => Q.n.var 0 4 rfl rfl
  exact (pS_cons (pS_if (T_or (.cons (pC_not (T_val (F_isi Q.n 0 2 rfl m.f_isinstance rfl m.f_tuple bb_tuple nn_tuple (rV v_thing) True.intro) True.intro)) (.cons (F_ne Q.d (rE (F_len Q.n 3 rfl m.f_len (rV v_thing) True.intro)) (rE (F_len Q.n 3 rfl m.f_len (rE (F_ix Q.d (rV v_code) (rE kI) True.intro)) True.intro))).c .nil)))
    (pS_cons (pS_ret kB)
    pS_nil)
    pS_nil)
    (pS_cons (pS_ret (F_all Q.d Q.n 5 rfl m.f_all (rE (F_lc Q m [("standing", 2)] [2] [("standing", true), ("is_standing", false), ("code", true)] ["standing"] rfl (pI_seq (eV v_thing)) (by decide +kernel) (by decide +kernel) (by decide +kernel) (fun Y1 Q1 m1 => by
      have v_standing_c1 : ∀ {p : Pos}, PE Y1 (.Name "standing" p) (tVar 2) := fun {p} => Q1.n.var 2 0 rfl rfl
      have v_code_c1 : ∀ {p : Pos}, PE Y1 (.Name "code" p) (tVar 0) := fun {p} => Q1.n.var 0 2 rfl rfl
      exact ⟨(G_v (by decide) (G_n Q1.d Q1.n Q1.w 2 0 rfl rfl)), pTs_nil, (F_or (.cons (F_isN (rV v_standing_c1)).e (.cons (F_call Q1.d Q1.n 1 rfl (callee_is_standing m1) (by decide) rfl (.cons (eV v_code_c1) True.intro (.cons (eV v_standing_c1) True.intro .nil))) .nil)))⟩) True.intro)) True.intro))
    pS_nil))
def F_is_sheet_of_spans : Fn := bodyFn 2 N_103.length b_103
theorem callee_is_sheet_of_spans {Pr : Program} {w : World} {K : PySem.W.Frag} {mg : Str → Option Value} {base : Heap} (m : Md Pr w K mg base) : Callee Pr w K mg base "is_sheet_of_spans" 6 2 F_is_sheet_of_spans := by
  obtain ⟨hm, fd, F⟩ := m.d_is_sheet_of_spans
  exact callee_by (M := Md) F fs_103 hm (F.bindsN (ps := ["code", "thing"]) fun _ _ _ _ _ _ us hl => match us, hl with | [_, _], _ => rfl) rfl m (by decide +kernel) (by decide +kernel) body_103
/-! ### need_code -/
def N_46 : List Str := ["code"]
def L_46 : List (Str × Bool) := [("is_code", false), ("code", true), ("NoCode", false)]
def W_46 : List Str := []
theorem fs_46 : FnScope N_46 ["code"] sc_46 := ⟨rfl, rfl, rfl, by decide +kernel, rfl, by decide +kernel, by decide +kernel⟩
def b_46 : SxX := (seqX (ifX (bNot (bOf (xCall F_is_code [(xVar 0)])))
    (seqX (sRs "NoCode")
    (lift sNil))
    (lift sNil))
    (lift sNil))
theorem body_46 (X : Cx) (E : WX) (tk : Takes X E) (Q : QX X 6 N_46 L_46 W_46 sc_46) (es : X.env.scope = sc_46) (m : MX Md X) : PSs X (defBody s_46) (tX (gd X) E b_46) := by
  have v_code : ∀ {p : Pos}, PE X (.Name "code" p) (tVar 0) := fun {p} => Q.n.var 0 1 rfl rfl
  exact (pX_cons (pX_if (pC_not (T_val (F_call Q.d Q.n 0 rfl (callee_is_code m) (by decide) rfl (.cons (eV v_code) True.intro .nil)) True.intro))
    (pX_cons (X_raise0 Q.d Q.n tk 2 rfl m.e_NoCode)
    (pXs_lift pS_nil))
    (pXs_lift pS_nil))
    (pXs_lift pS_nil))
def F_need_code : FnX := bodyX 1 N_46.length b_46
theorem callee_need_code {Pr : Program} {w : World} {K : PySem.W.Frag} {mg : Str → Option Value} {base : Heap} (m : Md Pr w K mg base) : CalleeX Pr w K mg base "need_code" 7 1 F_need_code := by
  obtain ⟨hm, fd, F⟩ := m.d_need_code
  exact calleeX_by (M := Md) F fs_46 hm (F.bindsN (ps := ["code"]) fun _ _ _ _ _ _ us hl => match us, hl with | [_], _ => rfl) rfl m (by decide +kernel) (by decide +kernel) body_46
def F_need_code_rt : Fn := rtFn F_need_code
theorem callee_need_code_rt {Pr : Program} {w : World} {K : PySem.W.Frag} {mg : Str → Option Value} {base : Heap} (m : Md Pr w K mg base) : Callee Pr w K mg base "need_code" 7 1 F_need_code_rt := (callee_need_code m).rt
/-! ### need_row -/
def N_47 : List Str := ["code", "row"]
def L_47 : List (Str × Bool) := [("need_code", false), ("code", true), ("is_between", false), ("row", true), ("len", false), ("NoRow", false)]
def W_47 : List Str := []
theorem fs_47 : FnScope N_47 ["code", "row"] sc_47 := ⟨rfl, rfl, rfl, by decide +kernel, rfl, by decide +kernel, by decide +kernel⟩
def b_47 : SxX := (seqX (sExpX (xCallX F_need_code [(xVar 0)]))
    (seqX (ifX (bNot (bOf (xCall F_is_between [(xVar 1), (xC (.int 0)), (xBin subP (rOf (xBlt lenS [(rOf (xIxA (rVar 0) (rOf (xC (.int 4)))))])) (rOf (xC (.int 1))))])))
    (seqX (sRsF "NoRow" "number" (xVar 1))
    (lift sNil))
    (lift sNil))
    (lift sNil)))
theorem body_47 (X : Cx) (E : WX) (tk : Takes X E) (Q : QX X 7 N_47 L_47 W_47 sc_47) (es : X.env.scope = sc_47) (m : MX Md X) : PSs X (defBody s_47) (tX (gd X) E b_47) := by
  have v_code : ∀ {p : Pos}, PE X (.Name "code" p) (tVar 0) := fun {p} => Q.n.var 0 1 rfl rfl
  have v_row : ∀ {p : Pos}, PE X (.Name "row" p) (tVar 1) := fun {p} => Q.n.var 1 3 rfl rfl
  exact (pX_cons (pX_exp (X_call Q.d Q.n tk 0 rfl (callee_need_code m) (by decide) rfl (.cons (eV v_code) True.intro .nil)) rfl)
    (pX_cons (pX_if (pC_not (T_val (F_call Q.d Q.n 2 rfl (callee_is_between m) (by decide) rfl (.cons (eV v_row) True.intro (.cons kI True.intro (.cons (F_sub (rE (F_len Q.n 4 rfl m.f_len (rE (F_ix Q.d (rV v_code) (rE kI) True.intro)) True.intro)) (rE kI)) True.intro .nil)))) True.intro))
    (pX_cons (X_raiseF Q.d Q.n tk 5 rfl (m.x_NoRow) (by decide) (eV v_row) True.intro)
    (pXs_lift pS_nil))
    (pXs_lift pS_nil))
    (pXs_lift pS_nil)))
def F_need_row : FnX := bodyX 2 N_47.length b_47
theorem callee_need_row {Pr : Program} {w : World} {K : PySem.W.Frag} {mg : Str → Option Value} {base : Heap} (m : Md Pr w K mg base) : CalleeX Pr w K mg base "need_row" 8 2 F_need_row := by
  obtain ⟨hm, fd, F⟩ := m.d_need_row
  exact calleeX_by (M := Md) F fs_47 hm (F.bindsN (ps := ["code", "row"]) fun _ _ _ _ _ _ us hl => match us, hl with | [_, _], _ => rfl) rfl m (by decide +kernel) (by decide +kernel) body_47
def F_need_row_rt : Fn := rtFn F_need_row
theorem callee_need_row_rt {Pr : Program} {w : World} {K : PySem.W.Frag} {mg : Str → Option Value} {base : Heap} (m : Md Pr w K mg base) : Callee Pr w K mg base "need_row" 8 2 F_need_row_rt := (callee_need_row m).rt
/-! ### span_sheet -/
def N_106 : List Str := ["code"]
def L_106 : List (Str × Bool) := [("need_code", false), ("code", true), ("least_sheet", false)]
def W_106 : List Str := []
theorem fs_106 : FnScope N_106 ["code"] sc_106 := ⟨rfl, rfl, rfl, by decide +kernel, rfl, by decide +kernel, by decide +kernel⟩
def b_106 : SxX := (seqX (sExpX (xCallX F_need_code [(xVar 0)]))
    (seqX (lift (sRet (xCall F_least_sheet [(xVar 0)])))
    (lift sNil)))
theorem body_106 (X : Cx) (E : WX) (tk : Takes X E) (Q : QX X 7 N_106 L_106 W_106 sc_106) (es : X.env.scope = sc_106) (m : MX Md X) : PSs X (defBody s_106) (tX (gd X) E b_106) := by
  have v_code : ∀ {p : Pos}, PE X (.Name "code" p) (tVar 0) := fun {p} => Q.n.var 0 1 rfl rfl
  exact (pX_cons (pX_exp (X_call Q.d Q.n tk 0 rfl (callee_need_code m) (by decide) rfl (.cons (eV v_code) True.intro .nil)) rfl)
    (pX_cons (pX_lift (pS_ret (F_call Q.d Q.n 2 rfl (callee_least_sheet m) (by decide) rfl (.cons (eV v_code) True.intro .nil))))
    (pXs_lift pS_nil)))
def F_span_sheet : FnX := bodyX 1 N_106.length b_106
theorem callee_span_sheet {Pr : Program} {w : World} {K : PySem.W.Frag} {mg : Str → Option Value} {base : Heap} (m : Md Pr w K mg base) : CalleeX Pr w K mg base "span_sheet" 8 1 F_span_sheet := by
  obtain ⟨hm, fd, F⟩ := m.d_span_sheet
  exact calleeX_by (M := Md) F fs_106 hm (F.bindsN (ps := ["code"]) fun _ _ _ _ _ _ us hl => match us, hl with | [_], _ => rfl) rfl m (by decide +kernel) (by decide +kernel) body_106
def F_span_sheet_rt : Fn := rtFn F_span_sheet
theorem callee_span_sheet_rt {Pr : Program} {w : World} {K : PySem.W.Frag} {mg : Str → Option Value} {base : Heap} (m : Md Pr w K mg base) : Callee Pr w K mg base "span_sheet" 8 1 F_span_sheet_rt := (callee_span_sheet m).rt
/-! ### is_span_sheet -/
def N_107 : List Str := ["code", "thing"]
def L_107 : List (Str × Bool) := [("need_code", false), ("code", true), ("is_sheet_of_spans", false), ("thing", true), ("does_hold", false)]
def W_107 : List Str := []
theorem fs_107 : FnScope N_107 ["code", "thing"] sc_107 := ⟨rfl, rfl, rfl, by decide +kernel, rfl, by decide +kernel, by decide +kernel⟩
def b_107 : SxX := (seqX (sExpX (xCallX F_need_code [(xVar 0)]))
    (seqX (lift (sRet (xB (xAnd [(xCall F_is_sheet_of_spans [(xVar 0), (xVar 1)]), (xCall F_does_hold [(xVar 0), (xVar 1)])]))))
    (lift sNil)))
theorem body_107 (X : Cx) (E : WX) (tk : Takes X E) (Q : QX X 7 N_107 L_107 W_107 sc_107) (es : X.env.scope = sc_107) (m : MX Md X) : PSs X (defBody s_107) (tX (gd X) E b_107) := by
  have v_code : ∀ {p : Pos}, PE X (.Name "code" p) (tVar 0) := fun {p} => Q.n.var 0 1 rfl rfl
  have v_thing : ∀ {p : Pos}, PE X (.Name "thing" p) (tVar 1) := fun {p} => Q.n.var 1 3 rfl rfl
  exact (pX_cons (pX_exp (X_call Q.d Q.n tk 0 rfl (callee_need_code m) (by decide) rfl (.cons (eV v_code) True.intro .nil)) rfl)
    (pX_cons (pX_lift (pS_ret (F_and (.cons (F_call Q.d Q.n 2 rfl (callee_is_sheet_of_spans m) (by decide) rfl (.cons (eV v_code) True.intro (.cons (eV v_thing) True.intro .nil))) (.cons (F_call Q.d Q.n 4 rfl (callee_does_hold m) (by decide) rfl (.cons (eV v_code) True.intro (.cons (eV v_thing) True.intro .nil))) .nil)))))
    (pXs_lift pS_nil)))
def F_is_span_sheet : FnX := bodyX 2 N_107.length b_107
theorem callee_is_span_sheet {Pr : Program} {w : World} {K : PySem.W.Frag} {mg : Str → Option Value} {base : Heap} (m : Md Pr w K mg base) : CalleeX Pr w K mg base "is_span_sheet" 8 2 F_is_span_sheet := by
  obtain ⟨hm, fd, F⟩ := m.d_is_span_sheet
  exact calleeX_by (M := Md) F fs_107 hm (F.bindsN (ps := ["code", "thing"]) fun _ _ _ _ _ _ us hl => match us, hl with | [_, _], _ => rfl) rfl m (by decide +kernel) (by decide +kernel) body_107
def F_is_span_sheet_rt : Fn := rtFn F_is_span_sheet
theorem callee_is_span_sheet_rt {Pr : Program} {w : World} {K : PySem.W.Frag} {mg : Str → Option Value} {base : Heap} (m : Md Pr w K mg base) : Callee Pr w K mg base "is_span_sheet" 8 2 F_is_span_sheet_rt := (callee_is_span_sheet m).rt
/-! ### narrowed -/
def N_109 : List Str := ["code", "rows", "row", "standing"]
def L_109 : List (Str × Bool) := [("need_code", false), ("code", true), ("zip", false), ("least_sheet", false), ("rows", true), ("standing", true), ("row", true), ("tuple", false)]
def W_109 : List Str := ["rows", "row", "standing"]
theorem fs_109 : FnScope N_109 ["code"] sc_109 := ⟨rfl, rfl, rfl, by decide +kernel, rfl, by decide +kernel, by decide +kernel⟩
def b_109 : SxX := (seqX (sExpX (xCallX F_need_code [(xVar 0)]))
    (seqX (lift (sSet 1 (xLst [])))
    (seqX (lift (sFor (iZipP (xIxA (rVar 0) (rOf (xC (.int 4)))) (xCall F_least_sheet [(xVar 0)])) (gT [(gV 2), (gV 3)])
    (sSeq (sApp 1 (xIf (bOf (xNone false (rVar 3))) (xVar 2) xNever))
    sNil)))
    (seqX (lift (sRet (xBin addP (rOf (xSl (rVar 0) none (some (rOf (xC (.int 4)))))) (rOf (xTup [(false, (xBlt tupS [(rVar 1)]))])))))
    (lift sNil)))))
theorem body_109 (X : Cx) (E : WX) (tk : Takes X E) (Q : QX X 7 N_109 L_109 W_109 sc_109) (es : X.env.scope = sc_109) (m : MX Md X) : PSs X (defBody s_109) (tX (gd X) E b_109) := by
  have v_code : ∀ {p : Pos}, PE X (.Name "code" p) (tVar 0) := fun {p} => Q.n.var 0 1 rfl rfl
  have v_rows : ∀ {p : Pos}, PE X (.Name "rows" p) (tVar 1) := fun {p} => Q.n.var 1 4 rfl rfl
  have v_standing : ∀ {p : Pos}, PE X (.Name "standing" p) (tVar 3) := fun {p} => Q.n.var 3 5 rfl rfl
  have v_row : ∀ {p : Pos}, PE X (.Name "row" p) (tVar 2) := fun {p} => Q.n.var 2 6 rfl rfl
  exact (pX_cons (pX_exp (X_call Q.d Q.n tk 0 rfl (callee_need_code m) (by decide) rfl (.cons (eV v_code) True.intro .nil)) rfl)
    (pX_cons (pX_lift (S_set Q.d Q.n Q.w 1 0 rfl rfl (F_lst .nil) True.intro))
    (pX_cons (pX_lift (S_for (vs := [2, 3]) Q.d (I_zip Q.n 2 rfl m.f_zip (F_ix Q.d (rV v_code) (rE kI) True.intro) True.intro (F_call Q.d Q.n 3 rfl (callee_least_sheet m) (by decide) rfl (.cons (eV v_code) True.intro .nil)) True.intro) (G_t Q.d (.cons (G_v (by decide) (G_n Q.d Q.n Q.w 2 1 rfl rfl)) True.intro (.cons (G_v (by decide) (G_n Q.d Q.n Q.w 3 2 rfl rfl)) True.intro .nil)))
    (pS_cons (S_app v_rows (pE_if (F_isN (rV v_standing)).c (eV v_row) pE_never) True.intro rfl)
    pS_nil) True.intro))
    (pX_cons (pX_lift (pS_ret (F_add (rE (pE_sl (rV v_code) pO_none (pO_some (rE kI)))) (rE (F_tup (.cons (F_tuple Q.n 7 rfl m.f_tuple (rV v_rows) True.intro) True.intro .nil))))))
    (pXs_lift pS_nil)))))
def F_narrowed : FnX := bodyX 1 N_109.length b_109
theorem callee_narrowed {Pr : Program} {w : World} {K : PySem.W.Frag} {mg : Str → Option Value} {base : Heap} (m : Md Pr w K mg base) : CalleeX Pr w K mg base "narrowed" 8 1 F_narrowed := by
  obtain ⟨hm, fd, F⟩ := m.d_narrowed
  exact calleeX_by (M := Md) F fs_109 hm (F.bindsN (ps := ["code"]) fun _ _ _ _ _ _ us hl => match us, hl with | [_], _ => rfl) rfl m (by decide +kernel) (by decide +kernel) body_109
def F_narrowed_rt : Fn := rtFn F_narrowed
theorem callee_narrowed_rt {Pr : Program} {w : World} {K : PySem.W.Frag} {mg : Str → Option Value} {base : Heap} (m : Md Pr w K mg base) : Callee Pr w K mg base "narrowed" 8 1 F_narrowed_rt := (callee_narrowed m).rt
/-! ### need_claim -/
def N_105 : List Str := ["code", "row", "register", "span"]
def L_105 : List (Str × Bool) := [("need_code", false), ("code", true), ("need_row", false), ("row", true), ("is_between", false), ("register", true), ("NoNumber", false), ("need_span", false), ("span", true), ("need_few", false)]
def W_105 : List Str := []
theorem fs_105 : FnScope N_105 ["code", "row", "register", "span"] sc_105 := ⟨rfl, rfl, rfl, by decide +kernel, rfl, by decide +kernel, by decide +kernel⟩
def b_105 : SxX := (seqX (sExpX (xCallX F_need_code [(xVar 0)]))
    (seqX (sExpX (xCallX F_need_row [(xVar 0), (xVar 1)]))
    (seqX (ifX (bNot (bOf (xCall F_is_between [(xVar 2), (xC (.int 0)), (xBin subP (rOf (xIxA (rVar 0) (rOf (xC (.int 1))))) (rOf (xC (.int 1))))])))
    (seqX (sRsF "NoNumber" "number" (xVar 2))
    (lift sNil))
    (lift sNil))
    (seqX (sExpX (xCallX F_need_span [(xVar 3)]))
    (seqX (sExpX (xCallX F_need_few [(xIxA (rVar 0) (rOf (xC (.int 0))))]))
    (lift sNil))))))
theorem body_105 (X : Cx) (E : WX) (tk : Takes X E) (Q : QX X 8 N_105 L_105 W_105 sc_105) (es : X.env.scope = sc_105) (m : MX Md X) : PSs X (defBody s_105) (tX (gd X) E b_105) := by
  have v_code : ∀ {p : Pos}, PE X (.Name "code" p) (tVar 0) := fun {p} => Q.n.var 0 1 rfl rfl
  have v_row : ∀ {p : Pos}, PE X (.Name "row" p) (tVar 1) := fun {p} => Q.n.var 1 3 rfl rfl
  have v_register : ∀ {p : Pos}, PE X (.Name "register" p) (tVar 2) := fun {p} => Q.n.var 2 5 rfl rfl
  have v_span : ∀ {p : Pos}, PE X (.Name "span" p) (tVar 3) := fun {p} => Q.n.var 3 8 rfl rfl
  exact (pX_cons (pX_exp (X_call Q.d Q.n tk 0 rfl (callee_need_code m) (by decide) rfl (.cons (eV v_code) True.intro .nil)) rfl)
    (pX_cons (pX_exp (X_call Q.d Q.n tk 2 rfl (callee_need_row m) (by decide) rfl (.cons (eV v_code) True.intro (.cons (eV v_row) True.intro .nil))) rfl)
    (pX_cons (pX_if (pC_not (T_val (F_call Q.d Q.n 4 rfl (callee_is_between m) (by decide) rfl (.cons (eV v_register) True.intro (.cons kI True.intro (.cons (F_sub (rE (F_ix Q.d (rV v_code) (rE kI) True.intro)) (rE kI)) True.intro .nil)))) True.intro))
    (pX_cons (X_raiseF Q.d Q.n tk 6 rfl (m.x_NoNumber) (by decide) (eV v_register) True.intro)
    (pXs_lift pS_nil))
    (pXs_lift pS_nil))
    (pX_cons (pX_exp (X_call Q.d Q.n tk 7 rfl (callee_need_span m) (by decide) rfl (.cons (eV v_span) True.intro .nil)) rfl)
    (pX_cons (pX_exp (X_call Q.d Q.n tk 9 rfl (callee_need_few m) (by decide) rfl (.cons (F_ix Q.d (rV v_code) (rE kI) True.intro) True.intro .nil)) rfl)
    (pXs_lift pS_nil))))))
def F_need_claim : FnX := bodyX 4 N_105.length b_105
theorem callee_need_claim {Pr : Program} {w : World} {K : PySem.W.Frag} {mg : Str → Option Value} {base : Heap} (m : Md Pr w K mg base) : CalleeX Pr w K mg base "need_claim" 9 4 F_need_claim := by
  obtain ⟨hm, fd, F⟩ := m.d_need_claim
  exact calleeX_by (M := Md) F fs_105 hm (F.bindsN (ps := ["code", "row", "register", "span"]) fun _ _ _ _ _ _ us hl => match us, hl with | [_, _, _, _], _ => rfl) rfl m (by decide +kernel) (by decide +kernel) body_105
def F_need_claim_rt : Fn := rtFn F_need_claim
theorem callee_need_claim_rt {Pr : Program} {w : World} {K : PySem.W.Frag} {mg : Str → Option Value} {base : Heap} (m : Md Pr w K mg base) : Callee Pr w K mg base "need_claim" 9 4 F_need_claim_rt := (callee_need_claim m).rt
/-! ### claim_paper -/
def N_110 : List Str := ["code", "row", "register", "span", "sheet", "worths"]
def L_110 : List (Str × Bool) := [("need_claim", false), ("code", true), ("row", true), ("register", true), ("span", true), ("least_sheet", false), ("is_kept_by", false), ("sheet", true), ("KEPT", false), ("worths", true), ("LEFT", false), ("UNSURE", false)]
def W_110 : List Str := ["sheet", "worths"]
theorem fs_110 : FnScope N_110 ["code", "row", "register", "span"] sc_110 := ⟨rfl, rfl, rfl, by decide +kernel, rfl, by decide +kernel, by decide +kernel⟩
def b_110 : SxX := (seqX (sExpX (xCallX F_need_claim [(xVar 0), (xVar 1), (xVar 2), (xVar 3)]))
    (seqX (lift (sSet 4 (xCall F_least_sheet [(xVar 0)])))
    (seqX (lift (sIf (bOf (xCall F_is_kept_by [(xVar 4), (xVar 1), (xVar 2), (xVar 3)]))
    (sSeq (sRet (xTup [(false, (xC (.str "kept"))), (false, (xVar 4))]))
    sNil)
    sNil))
    (seqX (lift (sSet 5 xNever))
    (seqX (lift (sRet (xIf (bOf (xNone true (rVar 5))) (xTup [(false, (xC (.str "left"))), (false, (xVar 5))]) (xTup [(false, (xC (.str "unsure"))), (false, (xVar 4))]))))
    (lift sNil))))))
theorem body_110 (X : Cx) (E : WX) (tk : Takes X E) (Q : QX X 9 N_110 L_110 W_110 sc_110) (es : X.env.scope = sc_110) (m : MX Md X) : PSs X (defBody s_110) (tX (gd X) E b_110) := by
  have v_code : ∀ {p : Pos}, PE X (.Name "code" p) (tVar 0) := fun {p} => Q.n.var 0 1 rfl rfl
  have v_row : ∀ {p : Pos}, PE X (.Name "row" p) (tVar 1) := fun {p} => Q.n.var 1 2 rfl rfl
  have v_register : ∀ {p : Pos}, PE X (.Name "register" p) (tVar 2) := fun {p} => Q.n.var 2 3 rfl rfl
  have v_span : ∀ {p : Pos}, PE X (.Name "span" p) (tVar 3) := fun {p} => Q.n.var 3 4 rfl rfl
  have v_sheet : ∀ {p : Pos}, PE X (.Name "sheet" p) (tVar 4) := fun {p} => Q.n.var 4 7 rfl rfl
  have g_KEPT : ∀ {p : Pos}, PE X (.Name "KEPT" p) (tC (V_KEPT X.K)) := fun {p} => Q.n.con 8 rfl m.c_KEPT
  have v_worths : ∀ {p : Pos}, PE X (.Name "worths" p) (tVar 5) := fun {p} => Q.n.var 5 9 rfl rfl
  have g_LEFT : ∀ {p : Pos}, PE X (.Name "LEFT" p) (tC (V_LEFT X.K)) := fun {p} => Q.n.con 10 rfl m.c_LEFT
  have g_UNSURE : ∀ {p : Pos}, PE X (.Name "UNSURE" p) (tC (V_UNSURE X.K)) := fun {p} => Q.n.con 11 rfl m.c_UNSURE
  exact (pX_cons (pX_exp (X_call Q.d Q.n tk 0 rfl (callee_need_claim m) (by decide) rfl (.cons (eV v_code) True.intro (.cons (eV v_row) True.intro (.cons (eV v_register) True.intro (.cons (eV v_span) True.intro .nil))))) rfl)
    (pX_cons (pX_lift (S_set Q.d Q.n Q.w 4 0 rfl rfl (F_call Q.d Q.n 5 rfl (callee_least_sheet m) (by decide) rfl (.cons (eV v_code) True.intro .nil)) True.intro))
    (pX_cons (pX_lift (pS_if (T_val (F_call Q.d Q.n 6 rfl (callee_is_kept_by m) (by decide) rfl (.cons (eV v_sheet) True.intro (.cons (eV v_row) True.intro (.cons (eV v_register) True.intro (.cons (eV v_span) True.intro .nil))))) True.intro)
    (pS_cons (pS_ret (F_tup (.cons (eC _ g_KEPT rp_str) True.intro (.cons (eV v_sheet) True.intro .nil))))
    pS_nil)
    pS_nil))
    (pX_cons (pX_lift (S_set Q.d Q.n Q.w 5 1 rfl rfl pE_never True.intro))
    (pX_cons (pX_lift (pS_ret (pE_if (F_notN (rV v_worths)).c (F_tup (.cons (eC _ g_LEFT rp_str) True.intro (.cons (eV v_worths) True.intro .nil))) (F_tup (.cons (eC _ g_UNSURE rp_str) True.intro (.cons (eV v_sheet) True.intro .nil))))))
    (pXs_lift pS_nil))))))
def F_claim_paper : FnX := bodyX 4 N_110.length b_110
theorem callee_claim_paper {Pr : Program} {w : World} {K : PySem.W.Frag} {mg : Str → Option Value} {base : Heap} (m : Md Pr w K mg base) : CalleeX Pr w K mg base "claim_paper" 10 4 F_claim_paper := by
  obtain ⟨hm, fd, F⟩ := m.d_claim_paper
  exact calleeX_by (M := Md) F fs_110 hm (F.bindsN (ps := ["code", "row", "register", "span"]) fun _ _ _ _ _ _ us hl => match us, hl with | [_, _, _, _], _ => rfl) rfl m (by decide +kernel) (by decide +kernel) body_110
def F_claim_paper_rt : Fn := rtFn F_claim_paper
theorem callee_claim_paper_rt {Pr : Program} {w : World} {K : PySem.W.Frag} {mg : Str → Option Value} {base : Heap} (m : Md Pr w K mg base) : Callee Pr w K mg base "claim_paper" 10 4 F_claim_paper_rt := (callee_claim_paper m).rt
/-! ### shows_claim -/
def N_111 : List Str := ["code", "row", "register", "span", "thing", "kept"]
def L_111 : List (Str × Bool) := [("need_claim", false), ("code", true), ("row", true), ("register", true), ("span", true), ("isinstance", false), ("thing", true), ("tuple", false), ("len", false), ("str", false), ("LEFT", false), ("is_row_within_plain", false), ("KEPT", false), ("UNSURE", false), ("is_sheet_of_spans", false), ("is_kept_by", false), ("kept", true), ("does_hold", false), ("least_sheet", false)]
def W_111 : List Str := ["kept"]
theorem fs_111 : FnScope N_111 ["code", "row", "register", "span", "thing"] sc_111 := ⟨rfl, rfl, rfl, by decide +kernel, rfl, by decide +kernel, by decide +kernel⟩
def b_111 : SxX := (seqX (sExpX (xCallX F_need_claim [(xVar 0), (xVar 1), (xVar 2), (xVar 3)]))
    (seqX (lift (sIf (bOr [(bNot (bOf (xIsi "tuple" (rVar 4)))), (bOf (xCmp neS (rOf (xBlt lenS [(rVar 4)])) (rOf (xC (.int 2))))), (bNot (bOf (xIsi "str" (rOf (xIxA (rVar 4) (rOf (xC (.int 0))))))))])
    (sSeq (sRet (xC (.bool false)))
    sNil)
    sNil))
    (seqX (lift (sIf (bOf (xCmp eqS (rOf (xIxA (rVar 4) (rOf (xC (.int 0))))) (rOf (xC (.str "left")))))
    (sSeq (sRet (xB (xAnd [(xCall F_is_row_within_plain [(xIxA (rVar 0) (rOf (xC (.int 0)))), (xIxA (rVar 4) (rOf (xC (.int 1))))]), xNever])))
    sNil)
    sNil))
    (seqX (lift (sIf (bOr [(bOf (xCmp (inS true) (rOf (xIxA (rVar 4) (rOf (xC (.int 0))))) (rOf (xTup [(false, (xC (.str "kept"))), (false, (xC (.str "unsure")))])))), (bNot (bOf (xCall F_is_sheet_of_spans [(xVar 0), (xIxA (rVar 4) (rOf (xC (.int 1))))])))])
    (sSeq (sRet (xC (.bool false)))
    sNil)
    sNil))
    (seqX (lift (sSet 5 (xCall F_is_kept_by [(xIxA (rVar 4) (rOf (xC (.int 1)))), (xVar 1), (xVar 2), (xVar 3)])))
    (seqX (lift (sIf (bOf (xCmp eqS (rOf (xIxA (rVar 4) (rOf (xC (.int 0))))) (rOf (xC (.str "kept")))))
    (sSeq (sRet (xB (xAnd [(xVar 5), (xCall F_does_hold [(xVar 0), (xIxA (rVar 4) (rOf (xC (.int 1))))])])))
    sNil)
    sNil))
    (seqX (lift (sRet (xB (xAnd [(xB (bNot (bOf (xVar 5)))), (xCmp eqS (rOf (xIxA (rVar 4) (rOf (xC (.int 1))))) (rOf (xCall F_least_sheet [(xVar 0)]))), (xNone false (rOf xNever))]))))
    (lift sNil))))))))
theorem body_111 (X : Cx) (E : WX) (tk : Takes X E) (Q : QX X 9 N_111 L_111 W_111 sc_111) (es : X.env.scope = sc_111) (m : MX Md X) : PSs X (defBody s_111) (tX (gd X) E b_111) := by
  have v_code : ∀ {p : Pos}, PE X (.Name "code" p) (tVar 0) := fun {p} => Q.n.var 0 1 rfl rfl
  have v_row : ∀ {p : Pos}, PE X (.Name "row" p) (tVar 1) := fun {p} => Q.n.var 1 2 rfl rfl
  have v_register : ∀ {p : Pos}, PE X (.Name "register" p) (tVar 2) := fun {p} => Q.n.var 2 3 rfl rfl
  have v_span : ∀ {p : Pos}, PE X (.Name "span" p) (tVar 3) := fun {p} => Q.n.var 3 4 rfl rfl
  have v_thing : ∀ {p : Pos}, PE X (.Name "thing" p) (tVar 4) := fun {p} => Q.n.var 4 6 rfl rfl
  have g_LEFT : ∀ {p : Pos}, PE X (.Name "LEFT" p) (tC (V_LEFT X.K)) := fun {p} => Q.n.con 10 rfl m.c_LEFT
  have g_KEPT : ∀ {p : Pos}, PE X (.Name "KEPT" p) (tC (V_KEPT X.K)) := fun {p} => Q.n.con 12 rfl m.c_KEPT
  have g_UNSURE : ∀ {p : Pos}, PE X (.Name "UNSURE" p) (tC (V_UNSURE X.K)) := fun {p} => Q.n.con 13 rfl m.c_UNSURE
  have v_kept : ∀ {p : Pos}, PE X (.Name "kept" p) (tVar 5) := fun {p} => Q.n.var 5 16 rfl rfl
  exact (pX_cons (pX_exp (X_call Q.d Q.n tk 0 rfl (callee_need_claim m) (by decide) rfl (.cons (eV v_code) True.intro (.cons (eV v_row) True.intro (.cons (eV v_register) True.intro (.cons (eV v_span) True.intro .nil))))) rfl)
    (pX_cons (pX_lift (pS_if (T_or (.cons (pC_not (T_val (F_isi Q.n 5 7 rfl m.f_isinstance rfl m.f_tuple bb_tuple nn_tuple (rV v_thing) True.intro) True.intro)) (.cons (F_ne Q.d (rE (F_len Q.n 8 rfl m.f_len (rV v_thing) True.intro)) (rE kI)).c (.cons (pC_not (T_val (F_isi Q.n 5 9 rfl m.f_isinstance rfl m.f_str bb_str nn_str (rE (F_ix Q.d (rV v_thing) (rE kI) True.intro)) True.intro) True.intro)) .nil))))
    (pS_cons (pS_ret kB)
    pS_nil)
    pS_nil))
    (pX_cons (pX_lift (pS_if (F_eq Q.d (rE (F_ix Q.d (rV v_thing) (rE kI) True.intro)) (rE (eC _ g_LEFT rp_str))).c
    (pS_cons (pS_ret (F_and (.cons (F_call Q.d Q.n 11 rfl (callee_is_row_within_plain m) (by decide) rfl (.cons (F_ix Q.d (rV v_code) (rE kI) True.intro) True.intro (.cons (F_ix Q.d (rV v_thing) (rE kI) True.intro) True.intro .nil))) (.cons pE_never .nil))))
    pS_nil)
    pS_nil))
    (pX_cons (pX_lift (pS_if (T_or (.cons (F_nin Q.d (rE (F_ix Q.d (rV v_thing) (rE kI) True.intro)) (rE (F_tup (.cons (eC _ g_KEPT rp_str) True.intro (.cons (eC _ g_UNSURE rp_str) True.intro .nil)))) True.intro).c (.cons (pC_not (T_val (F_call Q.d Q.n 14 rfl (callee_is_sheet_of_spans m) (by decide) rfl (.cons (eV v_code) True.intro (.cons (F_ix Q.d (rV v_thing) (rE kI) True.intro) True.intro .nil))) True.intro)) .nil)))
    (pS_cons (pS_ret kB)
    pS_nil)
    pS_nil))
    (pX_cons (pX_lift (S_set Q.d Q.n Q.w 5 0 rfl rfl (F_call Q.d Q.n 15 rfl (callee_is_kept_by m) (by decide) rfl (.cons (F_ix Q.d (rV v_thing) (rE kI) True.intro) True.intro (.cons (eV v_row) True.intro (.cons (eV v_register) True.intro (.cons (eV v_span) True.intro .nil))))) True.intro))
    (pX_cons (pX_lift (pS_if (F_eq Q.d (rE (F_ix Q.d (rV v_thing) (rE kI) True.intro)) (rE (eC _ g_KEPT rp_str))).c
    (pS_cons (pS_ret (F_and (.cons (eV v_kept) (.cons (F_call Q.d Q.n 17 rfl (callee_does_hold m) (by decide) rfl (.cons (eV v_code) True.intro (.cons (F_ix Q.d (rV v_thing) (rE kI) True.intro) True.intro .nil))) .nil))))
    pS_nil)
    pS_nil))
    (pX_cons (pX_lift (pS_ret (F_and (.cons (pE_not (eV v_kept)) (.cons (F_eq Q.d (rE (F_ix Q.d (rV v_thing) (rE kI) True.intro)) (rE (F_call Q.d Q.n 18 rfl (callee_least_sheet m) (by decide) rfl (.cons (eV v_code) True.intro .nil)))).e (.cons (F_isN (rE pE_never)).e .nil))))))
    (pXs_lift pS_nil))))))))
def F_shows_claim : FnX := bodyX 5 N_111.length b_111
theorem callee_shows_claim {Pr : Program} {w : World} {K : PySem.W.Frag} {mg : Str → Option Value} {base : Heap} (m : Md Pr w K mg base) : CalleeX Pr w K mg base "shows_claim" 10 5 F_shows_claim := by
  obtain ⟨hm, fd, F⟩ := m.d_shows_claim
  exact calleeX_by (M := Md) F fs_111 hm (F.bindsN (ps := ["code", "row", "register", "span", "thing"]) fun _ _ _ _ _ _ us hl => match us, hl with | [_, _, _, _, _], _ => rfl) rfl m (by decide +kernel) (by decide +kernel) body_111
def F_shows_claim_rt : Fn := rtFn F_shows_claim
theorem callee_shows_claim_rt {Pr : Program} {w : World} {K : PySem.W.Frag} {mg : Str → Option Value} {base : Heap} (m : Md Pr w K mg base) : Callee Pr w K mg base "shows_claim" 10 5 F_shows_claim_rt := (callee_shows_claim m).rt
/-! ### _law_right -/
def N_117 : List Str := ["tin", "told", "due", "thing", "good", "none", "op", "register", "row", "span"]
def L_117 : List (Str × Bool) := [("good", true), ("none", true), ("_law_picked", false), ("tin", true), ("_law_met", false), ("told", true), ("repr", false), ("op", true), ("span", true), ("due", true), ("row", true), ("register", true), ("is_span_sheet", false), ("thing", true), ("shows_claim", false), ("span_sheet", false)]
def W_117 : List Str := ["good", "none", "row", "register", "span", "op", "told", "due", "thing"]
theorem fs_117 : FnScope N_117 ["tin"] sc_117 := ⟨rfl, rfl, rfl, by decide +kernel, rfl, by decide +kernel, by decide +kernel⟩
def b_117_0 : Sx := (sSet 4 (xTup [(false, (xTup [(false, (xTup [(false, (xC (.int 0))), (false, (xC (.int 9)))]))])), (false, (xC (.int 2))), (false, (xC (.int 1))), (false, (xTup [])), (false, (xTup [(false, (xTup [(false, (xC (.str "copy"))), (false, (xC (.int 1))), (false, (xC (.int 0)))])), (false, (xTup [(false, (xC (.str "end")))]))]))]))
def b_117_1 : Sx := (sSet 5 (xLst [(false, (xC (.none))), (false, (xC (.int 0))), (false, (xTup [])), (false, (xC (.str "code"))), (false, xEmp), (false, (xLst [(false, (xVar 4))])), (false, (xSl (rVar 4) none (some (rOf (xC (.int 4)))))), (false, (xBin addP (rVar 4) (rOf (xTup [(false, (xC (.int 0)))])))), (false, (xBin addP (rOf (xTup [(false, (xTup [(false, (xTup [(false, (xC (.int 9))), (false, (xC (.int 0)))]))]))])) (rOf (xSl (rVar 4) (some (rOf (xC (.int 1)))) none)))), (false, (xBin addP (rOf (xTup [(false, (xTup [(false, (xTup [(false, (xC (.int 0))), (false, (xC (.int 256)))]))]))])) (rOf (xSl (rVar 4) (some (rOf (xC (.int 1)))) none))))]))
def b_117_2 : Sx := (sSet 5 (xBin addP (rVar 5) (rOf (xLst [(false, (xBin addP (rOf (xBin addP (rOf (xSl (rVar 4) none (some (rOf (xC (.int 1)))))) (rOf (xTup [(false, (xC (.int 0)))])))) (rOf (xSl (rVar 4) (some (rOf (xC (.int 2)))) none)))), (false, (xBin addP (rOf (xBin addP (rOf (xSl (rVar 4) none (some (rOf (xC (.int 1)))))) (rOf (xTup [(false, (xC (.int 17)))])))) (rOf (xSl (rVar 4) (some (rOf (xC (.int 2)))) none)))), (false, (xBin addP (rOf (xBin addP (rOf (xSl (rVar 4) none (some (rOf (xC (.int 2)))))) (rOf (xTup [(false, (xC (.int 3)))])))) (rOf (xSl (rVar 4) (some (rOf (xC (.int 3)))) none))))]))))
def b_117_3 : Sx := (sSet 5 (xBin addP (rVar 5) (rOf (xLst [(false, (xBin addP (rOf (xBin addP (rOf (xSl (rVar 4) none (some (rOf (xC (.int 3)))))) (rOf (xTup [(false, (xTup [(false, (xC (.int 7)))]))])))) (rOf (xSl (rVar 4) (some (rOf (xC (.int 4)))) none)))), (false, (xBin addP (rOf (xSl (rVar 4) none (some (rOf (xC (.int 4)))))) (rOf (xTup [(false, (xTup []))])))), (false, (xBin addP (rOf (xSl (rVar 4) none (some (rOf (xC (.int 4)))))) (rOf (xTup [(false, (xTup [(false, (xTup [(false, (xC (.str "rest")))]))]))]))))]))))
def b_117_4 : Sx := (sSet 5 (xBin addP (rVar 5) (rOf (xLst [(false, (xBin addP (rOf (xSl (rVar 4) none (some (rOf (xC (.int 4)))))) (rOf (xTup [(false, (xTup [(false, (xTup [(false, (xC (.str "copy"))), (false, (xC (.int 1))), (false, (xC (.int 2)))])), (false, (xTup [(false, (xC (.str "end")))]))]))])))), (false, (xBin addP (rOf (xSl (rVar 4) none (some (rOf (xC (.int 4)))))) (rOf (xTup [(false, (xTup [(false, (xTup [(false, (xC (.str "go"))), (false, (xC (.int 0)))])), (false, (xTup [(false, (xC (.str "end")))]))]))]))))]))))
def b_117_5 : Sx := (sSet 5 (xCall F__law_picked [(xVar 0), (xBin addP (rVar 5) (rOf (xLst [(false, (xBin addP (rOf (xSl (rVar 4) none (some (rOf (xC (.int 4)))))) (rOf (xTup [(false, (xTup [(false, (xTup [(false, (xC (.str "end")))])), (false, (xTup [(false, (xC (.str "end")))]))]))]))))])))]))
def b_117_6 : Sx := (sSet 8 (xCall F__law_picked [(xVar 0), (xLst [(false, (xC (.none))), (false, (xNeg (rOf (xC (.int 1))))), (false, (xC (.int 2))), (false, (xC (.bool true))), (false, (xC (.str "0"))), (false, (xTup [(false, (xC (.int 0)))])), (false, (xLst [])), (false, xEmp), (false, (xBin powP (rOf (xC (.int 10))) (rOf (xC (.int 30)))))])]))
def b_117_7 : Sx := (sSet 7 (xCall F__law_picked [(xVar 0), (xLst [(false, (xC (.none))), (false, (xNeg (rOf (xC (.int 1))))), (false, (xC (.int 2))), (false, (xC (.bool true))), (false, (xC (.str "0"))), (false, (xTup [(false, (xC (.int 0)))])), (false, (xLst [])), (false, xEmp), (false, (xBin powP (rOf (xC (.int 10))) (rOf (xC (.int 30)))))])]))
def b_117_8 : Sx := (sSet 9 (xCall F__law_picked [(xVar 0), (xLst [(false, (xC (.none))), (false, (xTup [])), (false, (xTup [(false, (xC (.int 0)))])), (false, (xTup [(false, (xC (.int 1))), (false, (xC (.int 0)))])), (false, (xTup [(false, (xC (.int 0))), (false, (xC (.int 256)))])), (false, (xTup [(false, (xNeg (rOf (xC (.int 1))))), (false, (xC (.int 0)))])), (false, (xLst [(false, (xC (.int 0))), (false, (xC (.int 1)))])), (false, (xTup [(false, (xC (.int 0))), (false, (xC (.bool true)))])), (false, (xTup [(false, (xC (.str "0"))), (false, (xC (.str "1")))])), (false, xEmp), (false, (xC (.int 0))), (false, (xTup [(false, (xC (.int 0))), (false, (xC (.int 1))), (false, (xC (.int 2)))]))])]))
def b_117_9 : Sx := (sSet 6 (xCall F__law_picked [(xVar 0), (xLst [(false, (xC (.none))), (false, (xC (.str ""))), (false, (xC (.str "/"))), (false, (xC (.str "++"))), (false, (xC (.int 0))), (false, (xTup [(false, (xC (.str "+")))])), (false, (xLst [])), (false, xEmp), (false, (xC (.bool true)))])]))
def b_117_10 : Sx := (sSet 1 (xLst [(false, (xMet metP (xCallX F_span_sheet [(xVar 5)])))]))
def b_117_11 : Sx := (sApp 1 (xMet metP (xCallX F_narrowed [(xVar 5)])))
def b_117_12 : Sx := (sApp 1 (xMet metP (xCallX F_is_span_sheet [(xVar 5), (xC (.none))])))
def b_117_13 : Sx := (sApp 1 (xMet metP (xCallX F_span_made [(xVar 6), (xVar 9), (xVar 9)])))
def b_117_14 : Sx := (sApp 1 (xMet metP (xCallX F_span_made [(xC (.str "+")), (xVar 9), (xVar 6)])))
def b_117_15 : Sx := (sApp 1 (xMet metP (xCallX F_span_made [(xC (.str "+")), (xTup [(false, (xC (.int 0))), (false, (xC (.int 1)))]), (xVar 9)])))
def b_117_16 : Sx := (sApp 1 (xMet metP (xCallX F_claim_paper [(xVar 5), (xVar 8), (xVar 7), (xVar 9)])))
def b_117_17 : Sx := (sApp 1 (xMet metP (xCallX F_claim_paper [(xVar 4), (xVar 8), (xVar 7), (xVar 9)])))
def b_117_18 : Sx := (sApp 1 (xMet metP (xCallX F_claim_paper [(xVar 4), (xC (.int 0)), (xVar 7), (xVar 9)])))
def b_117_19 : Sx := (sApp 1 (xMet metP (xCallX F_claim_paper [(xVar 4), (xC (.int 0)), (xC (.int 1)), (xVar 9)])))
def b_117_20 : Sx := (sApp 1 (xMet metP (xCallX F_shows_claim [(xVar 5), (xVar 8), (xVar 7), (xVar 9), (xC (.none))])))
def b_117_21 : Sx := (sApp 1 (xMet metP (xCallX F_shows_claim [(xVar 4), (xVar 8), (xVar 7), (xVar 9), (xC (.none))])))
def b_117_22 : Sx := (sApp 1 (xMet metP (xCallX F_shows_claim [(xVar 4), (xC (.int 0)), (xVar 7), (xVar 9), (xC (.none))])))
def b_117_23 : Sx := (sApp 1 (xMet metP (xCallX F_shows_claim [(xVar 4), (xC (.int 0)), (xC (.int 1)), (xVar 9), (xC (.none))])))
def b_117_24 : Sx := (sSet 2 (xBin addP (rOf (xBin mulP (rOf (xLst [(false, (xC (.str "code")))])) (rOf (xC (.int 3))))) (rOf (xLst [(false, (xTup [(false, (xC (.str "number"))), (false, (xRepr (xVar 6)))])), (false, (xTup [(false, (xC (.str "number"))), (false, (xRepr (xVar 9)))])), (false, (xTup [(false, (xC (.str "number"))), (false, (xRepr (xVar 9)))]))]))))
def b_117_25 : Sx := (sSet 2 (xBin addP (rVar 2) (rOf (xBin mulP (rOf (xLst [(false, (xC (.str "code"))), (false, (xTup [(false, (xC (.str "row"))), (false, (xRepr (xVar 8)))])), (false, (xTup [(false, (xC (.str "number"))), (false, (xRepr (xVar 7)))])), (false, (xTup [(false, (xC (.str "number"))), (false, (xRepr (xVar 9)))]))])) (rOf (xC (.int 2)))))))
def b_117_26 : Sx := (sIf (bOf (xCmp neS (rVar 1) (rVar 2)))
    (sSeq (sRet (xC (.bool false)))
    sNil)
    sNil)
def b_117_27 : Sx := (sFor (iSeq (xLst [(false, (xVar 5)), (false, (xVar 8)), (false, (xVar 7)), (false, (xVar 9)), (false, (xVar 6)), (false, xEmp), (false, (xLst [(false, (xLst []))])), (false, (xTup [(false, (xC (.str "kept"))), (false, xEmp)])), (false, (xTup [(false, (xC (.str "left"))), (false, xEmp)])), (false, (xTup [(false, (xC (.str "unsure"))), (false, (xTup [(false, xEmp), (false, xEmp)]))])), (false, (xTup [(false, xEmp), (false, (xTup []))])), (false, (xTup [(false, (xC (.str "kept"))), (false, (xTup [(false, (xTup [(false, (xTup [])), (false, (xTup []))])), (false, (xC (.none)))]))]))])) (gV 3)
    (sSeq (sIf (bOr [(bOf (xIsB true false (rOf (xCall F_is_span_sheet_rt [(xVar 4), (xVar 3)])))), (bOf (xIsB true false (rOf (xCall F_shows_claim_rt [(xVar 4), (xC (.int 0)), (xC (.int 0)), (xTup [(false, (xC (.int 0))), (false, (xC (.int 9)))]), (xVar 3)]))))])
    (sSeq (sRet (xC (.bool false)))
    sNil)
    sNil)
    sNil))
def b_117_28 : Sx := (sRet (xIsB false true (rOf (xCall F_shows_claim_rt [(xVar 4), (xC (.int 0)), (xC (.int 0)), (xTup [(false, (xC (.int 0))), (false, (xC (.int 9)))]), (xTup [(false, (xC (.str "kept"))), (false, (xCall F_span_sheet_rt [(xVar 4)]))])]))))
def b_117 : Sx := (sSeq b_117_0
    (sSeq b_117_1
    (sSeq b_117_2
    (sSeq b_117_3
    (sSeq b_117_4
    (sSeq b_117_5
    (sSeq b_117_6
    (sSeq b_117_7
    (sSeq b_117_8
    (sSeq b_117_9
    (sSeq b_117_10
    (sSeq b_117_11
    (sSeq b_117_12
    (sSeq b_117_13
    (sSeq b_117_14
    (sSeq b_117_15
    (sSeq b_117_16
    (sSeq b_117_17
    (sSeq b_117_18
    (sSeq b_117_19
    (sSeq b_117_20
    (sSeq b_117_21
    (sSeq b_117_22
    (sSeq b_117_23
    (sSeq b_117_24
    (sSeq b_117_25
    (sSeq b_117_26
    (sSeq b_117_27
    (sSeq b_117_28
    sNil)))))))))))))))))))))))))))))
theorem body_117 (X : Cx) (hG : X.A.guards = some []) (lc : LamC X) (Q : QX X 12 N_117 L_117 W_117 sc_117) (es : X.env.scope = sc_117) (m : MX Md X) : PSs X (defBody s_117) (tS (gd X) b_117) := by
  have v_good : ∀ {p : Pos}, PE X (.Name "good" p) (tVar 4) := fun {p} => Q.n.var 4 0 rfl rfl
  have v_none : ∀ {p : Pos}, PE X (.Name "none" p) (tVar 5) := fun {p} => Q.n.var 5 1 rfl rfl
  have v_tin : ∀ {p : Pos}, PE X (.Name "tin" p) (tVar 0) := fun {p} => Q.n.var 0 3 rfl rfl
  have v_told : ∀ {p : Pos}, PE X (.Name "told" p) (tVar 1) := fun {p} => Q.n.var 1 5 rfl rfl
  have v_op : ∀ {p : Pos}, PE X (.Name "op" p) (tVar 6) := fun {p} => Q.n.var 6 7 rfl rfl
  have v_span : ∀ {p : Pos}, PE X (.Name "span" p) (tVar 9) := fun {p} => Q.n.var 9 8 rfl rfl
  have v_due : ∀ {p : Pos}, PE X (.Name "due" p) (tVar 2) := fun {p} => Q.n.var 2 9 rfl rfl
  have v_row : ∀ {p : Pos}, PE X (.Name "row" p) (tVar 8) := fun {p} => Q.n.var 8 10 rfl rfl
  have v_register : ∀ {p : Pos}, PE X (.Name "register" p) (tVar 7) := fun {p} => Q.n.var 7 11 rfl rfl
  have v_thing : ∀ {p : Pos}, PE X (.Name "thing" p) (tVar 3) := fun {p} => Q.n.var 3 13 rfl rfl
  exact (pS_cons (S_set Q.d Q.n Q.w 4 0 rfl rfl (F_tup (.cons (F_tup (.cons (F_tup (.cons kI True.intro (.cons kI True.intro .nil))) True.intro .nil)) True.intro (.cons kI True.intro (.cons kI True.intro (.cons (F_tup .nil) True.intro (.cons (F_tup (.cons (F_tup (.cons kS True.intro (.cons kI True.intro (.cons kI True.intro .nil)))) True.intro (.cons (F_tup (.cons kS True.intro .nil)) True.intro .nil))) True.intro .nil)))))) True.intro)
    (pS_cons (S_set Q.d Q.n Q.w 5 1 rfl rfl (F_lst (.cons kN True.intro (.cons kI True.intro (.cons (F_tup .nil) True.intro (.cons kS True.intro (.cons pE_emp True.intro (.cons (F_lst (.cons (eV v_good) True.intro .nil)) True.intro (.cons (pE_sl (rV v_good) pO_none (pO_some (rE kI))) True.intro (.cons (F_add (rV v_good) (rE (F_tup (.cons kI True.intro .nil)))) True.intro (.cons (F_add (rE (F_tup (.cons (F_tup (.cons (F_tup (.cons kI True.intro (.cons kI True.intro .nil))) True.intro .nil)) True.intro .nil))) (rE (pE_sl (rV v_good) (pO_some (rE kI)) pO_none))) True.intro (.cons (F_add (rE (F_tup (.cons (F_tup (.cons (F_tup (.cons kI True.intro (.cons kI True.intro .nil))) True.intro .nil)) True.intro .nil))) (rE (pE_sl (rV v_good) (pO_some (rE kI)) pO_none))) True.intro .nil))))))))))) True.intro)
    (pS_cons (S_set Q.d Q.n Q.w 5 1 rfl rfl (F_add (rV v_none) (rE (F_lst (.cons (F_add (rE (F_add (rE (pE_sl (rV v_good) pO_none (pO_some (rE kI)))) (rE (F_tup (.cons kI True.intro .nil))))) (rE (pE_sl (rV v_good) (pO_some (rE kI)) pO_none))) True.intro (.cons (F_add (rE (F_add (rE (pE_sl (rV v_good) pO_none (pO_some (rE kI)))) (rE (F_tup (.cons kI True.intro .nil))))) (rE (pE_sl (rV v_good) (pO_some (rE kI)) pO_none))) True.intro (.cons (F_add (rE (F_add (rE (pE_sl (rV v_good) pO_none (pO_some (rE kI)))) (rE (F_tup (.cons kI True.intro .nil))))) (rE (pE_sl (rV v_good) (pO_some (rE kI)) pO_none))) True.intro .nil)))))) True.intro)
    (pS_cons (S_set Q.d Q.n Q.w 5 1 rfl rfl (F_add (rV v_none) (rE (F_lst (.cons (F_add (rE (F_add (rE (pE_sl (rV v_good) pO_none (pO_some (rE kI)))) (rE (F_tup (.cons (F_tup (.cons kI True.intro .nil)) True.intro .nil))))) (rE (pE_sl (rV v_good) (pO_some (rE kI)) pO_none))) True.intro (.cons (F_add (rE (pE_sl (rV v_good) pO_none (pO_some (rE kI)))) (rE (F_tup (.cons (F_tup .nil) True.intro .nil)))) True.intro (.cons (F_add (rE (pE_sl (rV v_good) pO_none (pO_some (rE kI)))) (rE (F_tup (.cons (F_tup (.cons (F_tup (.cons kS True.intro .nil)) True.intro .nil)) True.intro .nil)))) True.intro .nil)))))) True.intro)
    (pS_cons (S_set Q.d Q.n Q.w 5 1 rfl rfl (F_add (rV v_none) (rE (F_lst (.cons (F_add (rE (pE_sl (rV v_good) pO_none (pO_some (rE kI)))) (rE (F_tup (.cons (F_tup (.cons (F_tup (.cons kS True.intro (.cons kI True.intro (.cons kI True.intro .nil)))) True.intro (.cons (F_tup (.cons kS True.intro .nil)) True.intro .nil))) True.intro .nil)))) True.intro (.cons (F_add (rE (pE_sl (rV v_good) pO_none (pO_some (rE kI)))) (rE (F_tup (.cons (F_tup (.cons (F_tup (.cons kS True.intro (.cons kI True.intro .nil))) True.intro (.cons (F_tup (.cons kS True.intro .nil)) True.intro .nil))) True.intro .nil)))) True.intro .nil))))) True.intro)
    (pS_cons (S_set Q.d Q.n Q.w 5 1 rfl rfl (F_call Q.d Q.n 2 rfl (callee__law_picked m) (by decide) rfl (.cons (eV v_tin) True.intro (.cons (F_add (rV v_none) (rE (F_lst (.cons (F_add (rE (pE_sl (rV v_good) pO_none (pO_some (rE kI)))) (rE (F_tup (.cons (F_tup (.cons (F_tup (.cons kS True.intro .nil)) True.intro (.cons (F_tup (.cons kS True.intro .nil)) True.intro .nil))) True.intro .nil)))) True.intro .nil)))) True.intro .nil))) True.intro)
    (pS_cons (S_set Q.d Q.n Q.w 8 2 rfl rfl (F_call Q.d Q.n 2 rfl (callee__law_picked m) (by decide) rfl (.cons (eV v_tin) True.intro (.cons (F_lst (.cons kN True.intro (.cons (pE_neg (rE kI)) True.intro (.cons kI True.intro (.cons kB True.intro (.cons kS True.intro (.cons (F_tup (.cons kI True.intro .nil)) True.intro (.cons (F_lst .nil) True.intro (.cons pE_emp True.intro (.cons (F_pow (rE kI) (rE kI)) True.intro .nil)))))))))) True.intro .nil))) True.intro)
    (pS_cons (S_set Q.d Q.n Q.w 7 3 rfl rfl (F_call Q.d Q.n 2 rfl (callee__law_picked m) (by decide) rfl (.cons (eV v_tin) True.intro (.cons (F_lst (.cons kN True.intro (.cons (pE_neg (rE kI)) True.intro (.cons kI True.intro (.cons kB True.intro (.cons kS True.intro (.cons (F_tup (.cons kI True.intro .nil)) True.intro (.cons (F_lst .nil) True.intro (.cons pE_emp True.intro (.cons (F_pow (rE kI) (rE kI)) True.intro .nil)))))))))) True.intro .nil))) True.intro)
    (pS_cons (S_set Q.d Q.n Q.w 9 4 rfl rfl (F_call Q.d Q.n 2 rfl (callee__law_picked m) (by decide) rfl (.cons (eV v_tin) True.intro (.cons (F_lst (.cons kN True.intro (.cons (F_tup .nil) True.intro (.cons (F_tup (.cons kI True.intro .nil)) True.intro (.cons (F_tup (.cons kI True.intro (.cons kI True.intro .nil))) True.intro (.cons (F_tup (.cons kI True.intro (.cons kI True.intro .nil))) True.intro (.cons (F_tup (.cons (pE_neg (rE kI)) True.intro (.cons kI True.intro .nil))) True.intro (.cons (F_lst (.cons kI True.intro (.cons kI True.intro .nil))) True.intro (.cons (F_tup (.cons kI True.intro (.cons kB True.intro .nil))) True.intro (.cons (F_tup (.cons kS True.intro (.cons kS True.intro .nil))) True.intro (.cons pE_emp True.intro (.cons kI True.intro (.cons (F_tup (.cons kI True.intro (.cons kI True.intro (.cons kI True.intro .nil)))) True.intro .nil))))))))))))) True.intro .nil))) True.intro)
    (pS_cons (S_set Q.d Q.n Q.w 6 5 rfl rfl (F_call Q.d Q.n 2 rfl (callee__law_picked m) (by decide) rfl (.cons (eV v_tin) True.intro (.cons (F_lst (.cons kN True.intro (.cons kS True.intro (.cons kS True.intro (.cons kS True.intro (.cons kI True.intro (.cons (F_tup (.cons kS True.intro .nil)) True.intro (.cons (F_lst .nil) True.intro (.cons pE_emp True.intro (.cons kB True.intro .nil)))))))))) True.intro .nil))) True.intro)
    (pS_cons (S_set Q.d Q.n Q.w 1 6 rfl rfl (F_lst (.cons (met_e Q hG m lc es 4 rfl [("span_sheet", false), ("none", true)] (by decide +kernel) (by decide +kernel) rfl (fun _ _ _ _ _ => rfl) (fun Z1 E1 q1 tk1 m1 => by
      have v_none_l1 : ∀ {p : Pos}, PE Z1 (.Name "none" p) (tVar 5) := fun {p} => q1.n.var 5 1 rfl rfl
      exact X_callR q1.r q1.n tk1 0 rfl (callee_span_sheet m1) (by decide) rfl (.cons (eV v_none_l1) True.intro .nil))) True.intro .nil)) True.intro)
    (pS_cons (S_app v_told (met_e Q hG m lc es 4 rfl [("narrowed", false), ("none", true)] (by decide +kernel) (by decide +kernel) rfl (fun _ _ _ _ _ => rfl) (fun Z2 E2 q2 tk2 m2 => by
      have v_none_l2 : ∀ {p : Pos}, PE Z2 (.Name "none" p) (tVar 5) := fun {p} => q2.n.var 5 1 rfl rfl
      exact X_callR q2.r q2.n tk2 0 rfl (callee_narrowed m2) (by decide) rfl (.cons (eV v_none_l2) True.intro .nil))) True.intro rfl)
    (pS_cons (S_app v_told (met_e Q hG m lc es 4 rfl [("is_span_sheet", false), ("none", true)] (by decide +kernel) (by decide +kernel) rfl (fun _ _ _ _ _ => rfl) (fun Z3 E3 q3 tk3 m3 => by
      have v_none_l3 : ∀ {p : Pos}, PE Z3 (.Name "none" p) (tVar 5) := fun {p} => q3.n.var 5 1 rfl rfl
      exact X_callR q3.r q3.n tk3 0 rfl (callee_is_span_sheet m3) (by decide) rfl (.cons (eV v_none_l3) True.intro (.cons kN True.intro .nil)))) True.intro rfl)
    (pS_cons (S_app v_told (met_e Q hG m lc es 4 rfl [("span_made", false), ("op", true), ("span", true)] (by decide +kernel) (by decide +kernel) rfl (fun _ _ _ _ _ => rfl) (fun Z4 E4 q4 tk4 m4 => by
      have v_op_l4 : ∀ {p : Pos}, PE Z4 (.Name "op" p) (tVar 6) := fun {p} => q4.n.var 6 1 rfl rfl
      have v_span_l4 : ∀ {p : Pos}, PE Z4 (.Name "span" p) (tVar 9) := fun {p} => q4.n.var 9 2 rfl rfl
      exact X_callR q4.r q4.n tk4 0 rfl (callee_span_made m4) (by decide) rfl (.cons (eV v_op_l4) True.intro (.cons (eV v_span_l4) True.intro (.cons (eV v_span_l4) True.intro .nil))))) True.intro rfl)
    (pS_cons (S_app v_told (met_e Q hG m lc es 4 rfl [("span_made", false), ("span", true), ("op", true)] (by decide +kernel) (by decide +kernel) rfl (fun _ _ _ _ _ => rfl) (fun Z5 E5 q5 tk5 m5 => by
      have v_span_l5 : ∀ {p : Pos}, PE Z5 (.Name "span" p) (tVar 9) := fun {p} => q5.n.var 9 1 rfl rfl
      have v_op_l5 : ∀ {p : Pos}, PE Z5 (.Name "op" p) (tVar 6) := fun {p} => q5.n.var 6 2 rfl rfl
      exact X_callR q5.r q5.n tk5 0 rfl (callee_span_made m5) (by decide) rfl (.cons kS True.intro (.cons (eV v_span_l5) True.intro (.cons (eV v_op_l5) True.intro .nil))))) True.intro rfl)
    (pS_cons (S_app v_told (met_e Q hG m lc es 4 rfl [("span_made", false), ("span", true)] (by decide +kernel) (by decide +kernel) rfl (fun _ _ _ _ _ => rfl) (fun Z6 E6 q6 tk6 m6 => by
      have v_span_l6 : ∀ {p : Pos}, PE Z6 (.Name "span" p) (tVar 9) := fun {p} => q6.n.var 9 1 rfl rfl
      exact X_callR q6.r q6.n tk6 0 rfl (callee_span_made m6) (by decide) rfl (.cons kS True.intro (.cons (F_tup (.cons kI True.intro (.cons kI True.intro .nil))) True.intro (.cons (eV v_span_l6) True.intro .nil))))) True.intro rfl)
    (pS_cons (S_app v_told (met_e Q hG m lc es 4 rfl [("claim_paper", false), ("none", true), ("row", true), ("register", true), ("span", true)] (by decide +kernel) (by decide +kernel) rfl (fun _ _ _ _ _ => rfl) (fun Z7 E7 q7 tk7 m7 => by
      have v_none_l7 : ∀ {p : Pos}, PE Z7 (.Name "none" p) (tVar 5) := fun {p} => q7.n.var 5 1 rfl rfl
      have v_row_l7 : ∀ {p : Pos}, PE Z7 (.Name "row" p) (tVar 8) := fun {p} => q7.n.var 8 2 rfl rfl
      have v_register_l7 : ∀ {p : Pos}, PE Z7 (.Name "register" p) (tVar 7) := fun {p} => q7.n.var 7 3 rfl rfl
      have v_span_l7 : ∀ {p : Pos}, PE Z7 (.Name "span" p) (tVar 9) := fun {p} => q7.n.var 9 4 rfl rfl
      exact X_callR q7.r q7.n tk7 0 rfl (callee_claim_paper m7) (by decide) rfl (.cons (eV v_none_l7) True.intro (.cons (eV v_row_l7) True.intro (.cons (eV v_register_l7) True.intro (.cons (eV v_span_l7) True.intro .nil)))))) True.intro rfl)
    (pS_cons (S_app v_told (met_e Q hG m lc es 4 rfl [("claim_paper", false), ("good", true), ("row", true), ("register", true), ("span", true)] (by decide +kernel) (by decide +kernel) rfl (fun _ _ _ _ _ => rfl) (fun Z8 E8 q8 tk8 m8 => by
      have v_good_l8 : ∀ {p : Pos}, PE Z8 (.Name "good" p) (tVar 4) := fun {p} => q8.n.var 4 1 rfl rfl
      have v_row_l8 : ∀ {p : Pos}, PE Z8 (.Name "row" p) (tVar 8) := fun {p} => q8.n.var 8 2 rfl rfl
      have v_register_l8 : ∀ {p : Pos}, PE Z8 (.Name "register" p) (tVar 7) := fun {p} => q8.n.var 7 3 rfl rfl
      have v_span_l8 : ∀ {p : Pos}, PE Z8 (.Name "span" p) (tVar 9) := fun {p} => q8.n.var 9 4 rfl rfl
      exact X_callR q8.r q8.n tk8 0 rfl (callee_claim_paper m8) (by decide) rfl (.cons (eV v_good_l8) True.intro (.cons (eV v_row_l8) True.intro (.cons (eV v_register_l8) True.intro (.cons (eV v_span_l8) True.intro .nil)))))) True.intro rfl)
    (pS_cons (S_app v_told (met_e Q hG m lc es 4 rfl [("claim_paper", false), ("good", true), ("register", true), ("span", true)] (by decide +kernel) (by decide +kernel) rfl (fun _ _ _ _ _ => rfl) (fun Z9 E9 q9 tk9 m9 => by
      have v_good_l9 : ∀ {p : Pos}, PE Z9 (.Name "good" p) (tVar 4) := fun {p} => q9.n.var 4 1 rfl rfl
      have v_register_l9 : ∀ {p : Pos}, PE Z9 (.Name "register" p) (tVar 7) := fun {p} => q9.n.var 7 2 rfl rfl
      have v_span_l9 : ∀ {p : Pos}, PE Z9 (.Name "span" p) (tVar 9) := fun {p} => q9.n.var 9 3 rfl rfl
      exact X_callR q9.r q9.n tk9 0 rfl (callee_claim_paper m9) (by decide) rfl (.cons (eV v_good_l9) True.intro (.cons kI True.intro (.cons (eV v_register_l9) True.intro (.cons (eV v_span_l9) True.intro .nil)))))) True.intro rfl)
    (pS_cons (S_app v_told (met_e Q hG m lc es 4 rfl [("claim_paper", false), ("good", true), ("span", true)] (by decide +kernel) (by decide +kernel) rfl (fun _ _ _ _ _ => rfl) (fun Z10 E10 q10 tk10 m10 => by
      have v_good_l10 : ∀ {p : Pos}, PE Z10 (.Name "good" p) (tVar 4) := fun {p} => q10.n.var 4 1 rfl rfl
      have v_span_l10 : ∀ {p : Pos}, PE Z10 (.Name "span" p) (tVar 9) := fun {p} => q10.n.var 9 2 rfl rfl
      exact X_callR q10.r q10.n tk10 0 rfl (callee_claim_paper m10) (by decide) rfl (.cons (eV v_good_l10) True.intro (.cons kI True.intro (.cons kI True.intro (.cons (eV v_span_l10) True.intro .nil)))))) True.intro rfl)
    (pS_cons (S_app v_told (met_e Q hG m lc es 4 rfl [("shows_claim", false), ("none", true), ("row", true), ("register", true), ("span", true)] (by decide +kernel) (by decide +kernel) rfl (fun _ _ _ _ _ => rfl) (fun Z11 E11 q11 tk11 m11 => by
      have v_none_l11 : ∀ {p : Pos}, PE Z11 (.Name "none" p) (tVar 5) := fun {p} => q11.n.var 5 1 rfl rfl
      have v_row_l11 : ∀ {p : Pos}, PE Z11 (.Name "row" p) (tVar 8) := fun {p} => q11.n.var 8 2 rfl rfl
      have v_register_l11 : ∀ {p : Pos}, PE Z11 (.Name "register" p) (tVar 7) := fun {p} => q11.n.var 7 3 rfl rfl
      have v_span_l11 : ∀ {p : Pos}, PE Z11 (.Name "span" p) (tVar 9) := fun {p} => q11.n.var 9 4 rfl rfl
      exact X_callR q11.r q11.n tk11 0 rfl (callee_shows_claim m11) (by decide) rfl (.cons (eV v_none_l11) True.intro (.cons (eV v_row_l11) True.intro (.cons (eV v_register_l11) True.intro (.cons (eV v_span_l11) True.intro (.cons kN True.intro .nil))))))) True.intro rfl)
    (pS_cons (S_app v_told (met_e Q hG m lc es 4 rfl [("shows_claim", false), ("good", true), ("row", true), ("register", true), ("span", true)] (by decide +kernel) (by decide +kernel) rfl (fun _ _ _ _ _ => rfl) (fun Z12 E12 q12 tk12 m12 => by
      have v_good_l12 : ∀ {p : Pos}, PE Z12 (.Name "good" p) (tVar 4) := fun {p} => q12.n.var 4 1 rfl rfl
      have v_row_l12 : ∀ {p : Pos}, PE Z12 (.Name "row" p) (tVar 8) := fun {p} => q12.n.var 8 2 rfl rfl
      have v_register_l12 : ∀ {p : Pos}, PE Z12 (.Name "register" p) (tVar 7) := fun {p} => q12.n.var 7 3 rfl rfl
      have v_span_l12 : ∀ {p : Pos}, PE Z12 (.Name "span" p) (tVar 9) := fun {p} => q12.n.var 9 4 rfl rfl
      exact X_callR q12.r q12.n tk12 0 rfl (callee_shows_claim m12) (by decide) rfl (.cons (eV v_good_l12) True.intro (.cons (eV v_row_l12) True.intro (.cons (eV v_register_l12) True.intro (.cons (eV v_span_l12) True.intro (.cons kN True.intro .nil))))))) True.intro rfl)
    (pS_cons (S_app v_told (met_e Q hG m lc es 4 rfl [("shows_claim", false), ("good", true), ("register", true), ("span", true)] (by decide +kernel) (by decide +kernel) rfl (fun _ _ _ _ _ => rfl) (fun Z13 E13 q13 tk13 m13 => by
      have v_good_l13 : ∀ {p : Pos}, PE Z13 (.Name "good" p) (tVar 4) := fun {p} => q13.n.var 4 1 rfl rfl
      have v_register_l13 : ∀ {p : Pos}, PE Z13 (.Name "register" p) (tVar 7) := fun {p} => q13.n.var 7 2 rfl rfl
      have v_span_l13 : ∀ {p : Pos}, PE Z13 (.Name "span" p) (tVar 9) := fun {p} => q13.n.var 9 3 rfl rfl
      exact X_callR q13.r q13.n tk13 0 rfl (callee_shows_claim m13) (by decide) rfl (.cons (eV v_good_l13) True.intro (.cons kI True.intro (.cons (eV v_register_l13) True.intro (.cons (eV v_span_l13) True.intro (.cons kN True.intro .nil))))))) True.intro rfl)
    (pS_cons (S_app v_told (met_e Q hG m lc es 4 rfl [("shows_claim", false), ("good", true), ("span", true)] (by decide +kernel) (by decide +kernel) rfl (fun _ _ _ _ _ => rfl) (fun Z14 E14 q14 tk14 m14 => by
      have v_good_l14 : ∀ {p : Pos}, PE Z14 (.Name "good" p) (tVar 4) := fun {p} => q14.n.var 4 1 rfl rfl
      have v_span_l14 : ∀ {p : Pos}, PE Z14 (.Name "span" p) (tVar 9) := fun {p} => q14.n.var 9 2 rfl rfl
      exact X_callR q14.r q14.n tk14 0 rfl (callee_shows_claim m14) (by decide) rfl (.cons (eV v_good_l14) True.intro (.cons kI True.intro (.cons kI True.intro (.cons (eV v_span_l14) True.intro (.cons kN True.intro .nil))))))) True.intro rfl)
    (pS_cons (S_set Q.d Q.n Q.w 2 7 rfl rfl (F_add (rE (F_mul (rE (F_lst (.cons kS True.intro .nil))) (rE kI))) (rE (F_lst (.cons (F_tup (.cons kS True.intro (.cons (pE_repr hG Q.d.h70 (Q.n.gl 6 rfl) m.f_repr (eV v_op) (st1 True.intro)) True.intro .nil))) True.intro (.cons (F_tup (.cons kS True.intro (.cons (pE_repr hG Q.d.h70 (Q.n.gl 6 rfl) m.f_repr (eV v_span) (st1 True.intro)) True.intro .nil))) True.intro (.cons (F_tup (.cons kS True.intro (.cons (pE_repr hG Q.d.h70 (Q.n.gl 6 rfl) m.f_repr (eV v_span) (st1 True.intro)) True.intro .nil))) True.intro .nil)))))) True.intro)
    (pS_cons (S_set Q.d Q.n Q.w 2 7 rfl rfl (F_add (rV v_due) (rE (F_mul (rE (F_lst (.cons kS True.intro (.cons (F_tup (.cons kS True.intro (.cons (pE_repr hG Q.d.h70 (Q.n.gl 6 rfl) m.f_repr (eV v_row) (st1 True.intro)) True.intro .nil))) True.intro (.cons (F_tup (.cons kS True.intro (.cons (pE_repr hG Q.d.h70 (Q.n.gl 6 rfl) m.f_repr (eV v_register) (st1 True.intro)) True.intro .nil))) True.intro (.cons (F_tup (.cons kS True.intro (.cons (pE_repr hG Q.d.h70 (Q.n.gl 6 rfl) m.f_repr (eV v_span) (st1 True.intro)) True.intro .nil))) True.intro .nil)))))) (rE kI)))) True.intro)
    (pS_cons (pS_if (F_ne Q.d (rV v_told) (rV v_due)).c
    (pS_cons (pS_ret kB)
    pS_nil)
    pS_nil)
    (pS_cons (S_for (vs := [3]) Q.d (pI_seq (F_lst (.cons (eV v_none) True.intro (.cons (eV v_row) True.intro (.cons (eV v_register) True.intro (.cons (eV v_span) True.intro (.cons (eV v_op) True.intro (.cons pE_emp True.intro (.cons (F_lst (.cons (F_lst .nil) True.intro .nil)) True.intro (.cons (F_tup (.cons kS True.intro (.cons pE_emp True.intro .nil))) True.intro (.cons (F_tup (.cons kS True.intro (.cons pE_emp True.intro .nil))) True.intro (.cons (F_tup (.cons kS True.intro (.cons (F_tup (.cons pE_emp True.intro (.cons pE_emp True.intro .nil))) True.intro .nil))) True.intro (.cons (F_tup (.cons pE_emp True.intro (.cons (F_tup .nil) True.intro .nil))) True.intro (.cons (F_tup (.cons kS True.intro (.cons (F_tup (.cons (F_tup (.cons (F_tup .nil) True.intro (.cons (F_tup .nil) True.intro .nil))) True.intro (.cons kN True.intro .nil))) True.intro .nil))) True.intro .nil)))))))))))))) (G_v (by decide) (G_n Q.d Q.n Q.w 3 8 rfl rfl))
    (pS_cons (pS_if (T_or (.cons (F_notB (rE (F_call Q.d Q.n 12 rfl (callee_is_span_sheet_rt m) (by decide) rfl (.cons (eV v_good) True.intro (.cons (eV v_thing) True.intro .nil))))).c (.cons (F_notB (rE (F_call Q.d Q.n 14 rfl (callee_shows_claim_rt m) (by decide) rfl (.cons (eV v_good) True.intro (.cons kI True.intro (.cons kI True.intro (.cons (F_tup (.cons kI True.intro (.cons kI True.intro .nil))) True.intro (.cons (eV v_thing) True.intro .nil)))))))).c .nil)))
    (pS_cons (pS_ret kB)
    pS_nil)
    pS_nil)
    pS_nil) True.intro)
    (pS_cons (pS_ret (F_isB (rE (F_call Q.d Q.n 14 rfl (callee_shows_claim_rt m) (by decide) rfl (.cons (eV v_good) True.intro (.cons kI True.intro (.cons kI True.intro (.cons (F_tup (.cons kI True.intro (.cons kI True.intro .nil))) True.intro (.cons (F_tup (.cons kS True.intro (.cons (F_call Q.d Q.n 15 rfl (callee_span_sheet_rt m) (by decide) rfl (.cons (eV v_good) True.intro .nil)) True.intro .nil))) True.intro .nil)))))))).e)
    pS_nil)))))))))))))))))))))))))))))
theorem lamC_right {Pr : Program} {w : World} {K : PySem.W.Frag} {mg : Str → Option Value} {base : Heap} (m : Md Pr w K mg base) {X : Cx} (hb : X.base = base) (hm : X.mg = mg) (hc : X.env.code = .ref (He.codeOf K ("_law_right", none))) (hq : X.env.qual = ("_law_right" : Str) ++ ".<locals>.") : LamC X := by
  refine ⟨_, 645, by rw [hb, hm]; exact m.tb_right, hc, ?_, ?_⟩
  · rw [hq]; decide +kernel
  · rw [hq]; decide +kernel
theorem lamC_law {Pr : Program} {w : World} {K : PySem.W.Frag} {mg : Str → Option Value} {base : Heap} (m : Md Pr w K mg base) {X : Cx} (hb : X.base = base) (hm : X.mg = mg) (hc : X.env.code = .ref (He.codeOf K ("law", none))) (hq : X.env.qual = ("law" : Str) ++ ".<locals>.") : LamC X := by
  refine ⟨_, 652, by rw [hb, hm]; exact m.tb_law, hc, ?_, ?_⟩
  · rw [hq]; decide +kernel
  · rw [hq]; decide +kernel
def F__law_right : Fn := bodyFn 1 N_117.length b_117
theorem callee__law_right {Pr : Program} {w : World} {K : PySem.W.Frag} {mg : Str → Option Value} {base : Heap} (m : Md Pr w K mg base) : CalleeG Pr w K mg base "_law_right" 13 1 F__law_right := by
  obtain ⟨hm, fd, F⟩ := m.d__law_right
  have bd := F.bindsN (ps := ["tin"]) fun _ _ _ _ _ _ us hl => match us, hl with | [_], _ => rfl
  obtain ⟨oc, od, dV, kV, doc, pm, an, cdv, ct, osl, e, lk, hcd, _, _⟩ := F.ex
  subst e
  obtain ⟨c, rfl⟩ := He.codeIn_ref hcd
  have ec := He.codeOf_eq (p := ("_law_right", none)) lk rfl
  refine ⟨_, _, _, hm, F.kp, bd, rfl, fnG_of lk hcd fs_117 (fun vs H Q E q => by obtain ⟨_, _, _, _, _, _, _, q, _⟩ := q; exact q) fun A outer s H vs Q E hG hr q => ⟨_, body_117 _ hG (lamC_right m rfl rfl (by rw [ec]; rfl) rfl) (.of (.nox fs_117.nd rfl (kds_of_code hcd) hr) rfl rfl (fun _ => rfl) (by decide +kernel) (by decide +kernel)) rfl m, body_ok q⟩⟩

/-! ### law -/
def N_118 : List Str := ["script", "spot", "tin", "full", "told", "wide"]
def L_118 : List (Str × Bool) := [("range", false), ("max", false), ("min", false), ("len", false), ("script", true), ("_law_tin", false), ("spot", true), ("_law_right", false), ("tin", true), ("_law_met", false), ("told", true), ("claim_paper", false), ("full", true), ("span_sheet", false), ("wide", true)]
def W_118 : List Str := ["spot", "tin", "wide", "full", "told"]
theorem fs_118 : FnScope N_118 ["script"] sc_118 := ⟨rfl, rfl, rfl, by decide +kernel, rfl, by decide +kernel, by decide +kernel⟩
def b_118_0 : Sx := (sFor (iRng [(xBlt max2S [(rOf (xC (.int 1))), (rOf (xBlt min2S [(rOf (xC (.int 4))), (rOf (xBlt lenS [(rVar 0)]))]))])]) (gV 1)
    (sSeq (sSetH 2 (xCall F__law_tin [(xVar 0), (xVar 1)]))
    (sSeq (sIf (bOr [(bNot (bOf (xCall F__law_right [(xVar 2)]))), (bNot (bOf (xCall F__law_right [(xVar 2)])))])
    (sSeq (sRet (xC (.bool false)))
    sNil)
    sNil)
    sNil)))
def b_118_1 : Sx := (sSet 5 (xTup [(false, (xTup [(false, (xTup [(false, (xC (.int 0))), (false, (xC (.int 19)))])), (false, (xTup [(false, (xC (.int 0))), (false, (xC (.int 20)))]))])), (false, (xC (.int 2))), (false, (xC (.int 1))), (false, (xTup [])), (false, (xTup [(false, (xTup [(false, (xC (.str "end")))]))]))]))
def b_118_2 : Sx := (sSet 3 (xTup [(false, (xTup [(false, (xTup [(false, (xC (.int 0))), (false, (xC (.int 19)))])), (false, (xTup [(false, (xC (.int 0))), (false, (xC (.int 19)))]))])), (false, (xC (.int 2))), (false, (xC (.int 1))), (false, (xTup [])), (false, (xTup [(false, (xTup [(false, (xC (.str "end")))]))]))]))
def b_118_3 : Sx := (sSet 4 (xLst [(false, (xMet metP (xCallX F_claim_paper [(xVar 5), (xC (.int 0)), (xC (.int 0)), (xTup [(false, (xC (.int 0))), (false, (xC (.int 19)))])])))]))
def b_118_4 : Sx := (sApp 4 (xMet metP (xCallX F_shows_claim [(xVar 5), (xC (.int 0)), (xC (.int 0)), (xTup [(false, (xC (.int 0))), (false, (xC (.int 19)))]), (xC (.none))])))
def b_118_5 : Sx := (sApp 4 (xMet metP (xCallX F_claim_paper [(xVar 5), (xC (.int 0)), (xC (.int 0)), (xTup [(false, (xC (.int 1))), (false, (xC (.int 0)))])])))
def b_118_6 : Sx := (sRet (xB (xAnd [(xCmp eqS (rVar 4) (rOf (xLst [(false, (xC (.str "wide"))), (false, (xC (.str "wide"))), (false, (xTup [(false, (xC (.str "number"))), (false, (xC (.str "(1, 0)")))]))]))), (xCmp eqS (rOf (xIxA (rOf (xCall F_claim_paper_rt [(xVar 3), (xC (.int 0)), (xC (.int 0)), (xTup [(false, (xC (.int 0))), (false, (xC (.int 19)))])])) (rOf (xC (.int 0))))) (rOf (xC (.str "kept")))), (xCmp eqS (rOf (xCall F_span_sheet_rt [(xVar 5)])) (rOf (xTup [(false, (xTup [(false, (xTup [(false, (xTup [(false, (xC (.int 0))), (false, (xC (.int 19)))])), (false, (xTup [(false, (xC (.int 0))), (false, (xC (.int 20)))]))])), (false, (xTup []))]))])))])))
def b_118 : Sx := (sSeq b_118_0
    (sSeq b_118_1
    (sSeq b_118_2
    (sSeq b_118_3
    (sSeq b_118_4
    (sSeq b_118_5
    (sSeq b_118_6
    sNil)))))))
theorem body_118 (X : Cx) (hG : X.A.guards = some []) (lc : LamC X) (Q : QX X 13 N_118 L_118 W_118 sc_118) (es : X.env.scope = sc_118) (m : MX Md X) : PSs X (defBody s_118) (tS (gd X) b_118) := by
  have v_script : ∀ {p : Pos}, PE X (.Name "script" p) (tVar 0) := fun {p} => Q.n.var 0 4 rfl rfl
  have v_spot : ∀ {p : Pos}, PE X (.Name "spot" p) (tVar 1) := fun {p} => Q.n.var 1 6 rfl rfl
  have v_tin : ∀ {p : Pos}, PE X (.Name "tin" p) (tVar 2) := fun {p} => Q.n.var 2 8 rfl rfl
  have v_told : ∀ {p : Pos}, PE X (.Name "told" p) (tVar 4) := fun {p} => Q.n.var 4 10 rfl rfl
  have v_full : ∀ {p : Pos}, PE X (.Name "full" p) (tVar 3) := fun {p} => Q.n.var 3 12 rfl rfl
  have v_wide : ∀ {p : Pos}, PE X (.Name "wide" p) (tVar 5) := fun {p} => Q.n.var 5 14 rfl rfl
  exact (pS_cons (S_for (vs := [1]) Q.d (I_rng1 Q.n 0 rfl m.f_range (F_max2 Q.d Q.n 1 rfl m.f_max (rE kI) True.intro (rE (F_min2 Q.d Q.n 2 rfl m.f_min (rE kI) True.intro (rE (F_len Q.n 3 rfl m.f_len (rV v_script) True.intro)) True.intro)) True.intro) True.intro) (G_v (by decide) (G_n Q.d Q.n Q.w 1 0 rfl rfl))
    (pS_cons (S_setH Q.d Q.n Q.w 2 1 rfl rfl (F_call Q.d Q.n 5 rfl (callee__law_tin m) (by decide) rfl (.cons (eV v_script) True.intro (.cons (eV v_spot) True.intro .nil))) True.intro)
    (pS_cons (pS_if (T_or (.cons (pC_not (T_val (F_callG Q.d hG Q.n 7 rfl (callee__law_right m) (by decide) rfl (.cons (eV v_tin) True.intro .nil)) True.intro)) (.cons (pC_not (T_val (F_callG Q.d hG Q.n 7 rfl (callee__law_right m) (by decide) rfl (.cons (eV v_tin) True.intro .nil)) True.intro)) .nil)))
    (pS_cons (pS_ret kB)
    pS_nil)
    pS_nil)
    pS_nil)) True.intro)
    (pS_cons (S_set Q.d Q.n Q.w 5 2 rfl rfl (F_tup (.cons (F_tup (.cons (F_tup (.cons kI True.intro (.cons kI True.intro .nil))) True.intro (.cons (F_tup (.cons kI True.intro (.cons kI True.intro .nil))) True.intro .nil))) True.intro (.cons kI True.intro (.cons kI True.intro (.cons (F_tup .nil) True.intro (.cons (F_tup (.cons (F_tup (.cons kS True.intro .nil)) True.intro .nil)) True.intro .nil)))))) True.intro)
    (pS_cons (S_set Q.d Q.n Q.w 3 3 rfl rfl (F_tup (.cons (F_tup (.cons (F_tup (.cons kI True.intro (.cons kI True.intro .nil))) True.intro (.cons (F_tup (.cons kI True.intro (.cons kI True.intro .nil))) True.intro .nil))) True.intro (.cons kI True.intro (.cons kI True.intro (.cons (F_tup .nil) True.intro (.cons (F_tup (.cons (F_tup (.cons kS True.intro .nil)) True.intro .nil)) True.intro .nil)))))) True.intro)
    (pS_cons (S_set Q.d Q.n Q.w 4 4 rfl rfl (F_lst (.cons (met_e Q hG m lc es 9 rfl [("claim_paper", false), ("wide", true)] (by decide +kernel) (by decide +kernel) rfl (fun _ _ _ _ _ => rfl) (fun Z1 E1 q1 tk1 m1 => by
      have v_wide_l1 : ∀ {p : Pos}, PE Z1 (.Name "wide" p) (tVar 5) := fun {p} => q1.n.var 5 1 rfl rfl
      exact X_callR q1.r q1.n tk1 0 rfl (callee_claim_paper m1) (by decide) rfl (.cons (eV v_wide_l1) True.intro (.cons kI True.intro (.cons kI True.intro (.cons (F_tup (.cons kI True.intro (.cons kI True.intro .nil))) True.intro .nil)))))) True.intro .nil)) True.intro)
    (pS_cons (S_app v_told (met_e Q hG m lc es 9 rfl [("shows_claim", false), ("wide", true)] (by decide +kernel) (by decide +kernel) rfl (fun _ _ _ _ _ => rfl) (fun Z2 E2 q2 tk2 m2 => by
      have v_wide_l2 : ∀ {p : Pos}, PE Z2 (.Name "wide" p) (tVar 5) := fun {p} => q2.n.var 5 1 rfl rfl
      exact X_callR q2.r q2.n tk2 0 rfl (callee_shows_claim m2) (by decide) rfl (.cons (eV v_wide_l2) True.intro (.cons kI True.intro (.cons kI True.intro (.cons (F_tup (.cons kI True.intro (.cons kI True.intro .nil))) True.intro (.cons kN True.intro .nil))))))) True.intro rfl)
    (pS_cons (S_app v_told (met_e Q hG m lc es 9 rfl [("claim_paper", false), ("wide", true)] (by decide +kernel) (by decide +kernel) rfl (fun _ _ _ _ _ => rfl) (fun Z3 E3 q3 tk3 m3 => by
      have v_wide_l3 : ∀ {p : Pos}, PE Z3 (.Name "wide" p) (tVar 5) := fun {p} => q3.n.var 5 1 rfl rfl
      exact X_callR q3.r q3.n tk3 0 rfl (callee_claim_paper m3) (by decide) rfl (.cons (eV v_wide_l3) True.intro (.cons kI True.intro (.cons kI True.intro (.cons (F_tup (.cons kI True.intro (.cons kI True.intro .nil))) True.intro .nil)))))) True.intro rfl)
    (pS_cons (pS_ret (F_and (.cons (F_eq Q.d (rV v_told) (rE (F_lst (.cons kS True.intro (.cons kS True.intro (.cons (F_tup (.cons kS True.intro (.cons kS True.intro .nil))) True.intro .nil)))))).e (.cons (F_eq Q.d (rE (F_ix Q.d (rE (F_call Q.d Q.n 11 rfl (callee_claim_paper_rt m) (by decide) rfl (.cons (eV v_full) True.intro (.cons kI True.intro (.cons kI True.intro (.cons (F_tup (.cons kI True.intro (.cons kI True.intro .nil))) True.intro .nil)))))) (rE kI) True.intro)) (rE kS)).e (.cons (F_eq Q.d (rE (F_call Q.d Q.n 13 rfl (callee_span_sheet_rt m) (by decide) rfl (.cons (eV v_wide) True.intro .nil))) (rE (F_tup (.cons (F_tup (.cons (F_tup (.cons (F_tup (.cons kI True.intro (.cons kI True.intro .nil))) True.intro (.cons (F_tup (.cons kI True.intro (.cons kI True.intro .nil))) True.intro .nil))) True.intro (.cons (F_tup .nil) True.intro .nil))) True.intro .nil)))).e .nil)))))
    pS_nil)))))))
def F_law : Fn := bodyFn 1 N_118.length b_118
theorem ok_law {Pr : Program} {w : World} {K : PySem.W.Frag} {mg : Str → Option Value} {base : Heap} (m : Md Pr w K mg base) : CalleeG Pr w K mg base "law" 14 1 F_law := by
  obtain ⟨hm, fd, F⟩ := m.d_law
  have bd := F.bindsN (ps := ["script"]) fun _ _ _ _ _ _ us hl => match us, hl with | [_], _ => rfl
  obtain ⟨oc, od, dV, kV, doc, pm, an, cdv, ct, osl, e, lk, hcd, _, _⟩ := F.ex
  subst e
  obtain ⟨c, rfl⟩ := He.codeIn_ref hcd
  have ec := He.codeOf_eq (p := ("law", none)) lk rfl
  refine ⟨_, _, _, hm, F.kp, bd, rfl, fnG_of lk hcd fs_118 (fun vs H Q E q => by obtain ⟨_, _, _, _, _, _, _, q, _⟩ := q; exact q) fun A outer s H vs Q E hG hr q => ⟨_, body_118 _ hG (lamC_law m rfl rfl (by rw [ec]; rfl) rfl) (.of (.nox fs_118.nd rfl (kds_of_code hcd) hr) rfl rfl (fun _ => rfl) (by decide +kernel) (by decide +kernel)) rfl m, body_ok q⟩⟩

end k04
namespace k04
open PySem PySem.Spec L2 PI
def pI (i : Int) : P := .int i
def pT (l : List P) : P := .tuple l
def pS (x : Str) : P := .str x
def ask09 : P := pT [pI 0, pI 9]
def g0 : P := pT [ask09]
def g4 : P := pT [pT [pS "copy", pI 1, pI 0], pT [pS "end"]]
def good : P := pT [g0, pI 2, pI 1, pT [], g4]
def nones : List P := [.none, pI 0, pT [], pS "code", .dict [], .list [good], pT [g0, pI 2, pI 1, pT []], pT [g0, pI 2, pI 1, pT [], g4, pI 0], pT [pT [pT [pI 9, pI 0]], pI 2, pI 1, pT [], g4], pT [pT [pT [pI 0, pI 256]], pI 2, pI 1, pT [], g4],
  pT [g0, pI 0, pI 1, pT [], g4], pT [g0, pI 17, pI 1, pT [], g4], pT [g0, pI 2, pI 3, pT [], g4], pT [g0, pI 2, pI 1, pT [pI 7], g4], pT [g0, pI 2, pI 1, pT [], pT []], pT [g0, pI 2, pI 1, pT [], pT [pT [pS "rest"]]],
  pT [g0, pI 2, pI 1, pT [], pT [pT [pS "copy", pI 1, pI 2], pT [pS "end"]]], pT [g0, pI 2, pI 1, pT [], pT [pT [pS "go", pI 0], pT [pS "end"]]], pT [g0, pI 2, pI 1, pT [], pT [pT [pS "end"], pT [pS "end"]]]]
def rows : List P := [.none, pI (-1), pI 2, .bool true, pS "0", pT [pI 0], .list [], .dict [], pI (10 ^ 30)]
def spans : List P := [.none, pT [], pT [pI 0], pT [pI 1, pI 0], pT [pI 0, pI 256], pT [pI (-1), pI 0], .list [pI 0, pI 1], pT [pI 0, .bool true], pT [pS "0", pS "1"], .dict [], pI 0, pT [pI 0, pI 1, pI 2]]
def ops : List P := [.none, pS "", pS "/", pS "++", pI 0, pT [pS "+"], .list [], .dict [], .bool true]

theorem at_map {β : Type} {f g : P → β} {l : List P} (h : l.map f = l.map g) : ∀ p ∈ l, f p = g p := List.map_inj_left.mp h
abbrev exC : Exn := ⟨"NoCode", none⟩
abbrev exN (p : P) : Exn := ⟨"NoNumber", some ("number", p)⟩
abbrev exR (p : P) : Exn := ⟨"NoRow", some ("number", p)⟩
section
variable (sto : List (List Int)) (q q2 q3 q4 : P)
theorem m1 : nones.map (fun p => F_span_sheet [.d p] sto) = nones.map (fun _ => some (.ex exC, sto)) := by kernel_rfl
theorem m2 : nones.map (fun p => F_narrowed [.d p] sto) = nones.map (fun _ => some (.ex exC, sto)) := by kernel_rfl
theorem m3 : nones.map (fun p => F_is_span_sheet [.d p, .d .none] sto) = nones.map (fun _ => some (.ex exC, sto)) := by kernel_rfl
theorem m4 : ops.map (fun p => F_span_made [.d p, .d q, .d q2] sto) = ops.map (fun p => some (.ex (exN p), sto)) := by kernel_rfl
theorem m5 : spans.map (fun p => F_span_made [.d (.str "+"), .d p, .d q] sto) = spans.map (fun p => some (.ex (exN p), sto)) := by kernel_rfl
theorem m6 : spans.map (fun p => F_span_made [.d (.str "+"), .d (.tuple [.int 0, .int 1]), .d p] sto) = spans.map (fun p => some (.ex (exN p), sto)) := by kernel_rfl
theorem m7 : nones.map (fun p => F_claim_paper [.d p, .d q, .d q2, .d q3] sto) = nones.map (fun _ => some (.ex exC, sto)) := by kernel_rfl
theorem m8 : rows.map (fun p => F_claim_paper [.d good, .d p, .d q2, .d q3] sto) = rows.map (fun p => some (.ex (exR p), sto)) := by kernel_rfl
theorem m9 : rows.map (fun p => F_claim_paper [.d good, .d (.int 0), .d p, .d q3] sto) = rows.map (fun p => some (.ex (exN p), sto)) := by kernel_rfl
theorem m10 : spans.map (fun p => F_claim_paper [.d good, .d (.int 0), .d (.int 1), .d p] sto) = spans.map (fun p => some (.ex (exN p), sto)) := by kernel_rfl
theorem m11 : nones.map (fun p => F_shows_claim [.d p, .d q, .d q2, .d q3, .d .none] sto) = nones.map (fun _ => some (.ex exC, sto)) := by kernel_rfl
theorem m12 : rows.map (fun p => F_shows_claim [.d good, .d p, .d q2, .d q3, .d .none] sto) = rows.map (fun p => some (.ex (exR p), sto)) := by kernel_rfl
theorem m13 : rows.map (fun p => F_shows_claim [.d good, .d (.int 0), .d p, .d q3, .d .none] sto) = rows.map (fun p => some (.ex (exN p), sto)) := by kernel_rfl
theorem m14 : spans.map (fun p => F_shows_claim [.d good, .d (.int 0), .d (.int 1), .d p, .d .none] sto) = spans.map (fun p => some (.ex (exN p), sto)) := by kernel_rfl
def consts : List P := [.dict [], .list [.list []], pT [pS "kept", .dict []], pT [pS "left", .dict []], pT [pS "unsure", pT [.dict [], .dict []]], pT [.dict [], pT []], pT [pS "kept", pT [pT [pT [], pT []], .none]]]
def things : List P := nones ++ rows ++ spans ++ ops ++ consts
theorem m15 : things.map (fun p => F_is_span_sheet_rt [.d good, .d p] sto) = things.map (fun _ => some ((.d (.bool false), false), sto)) := by kernel_rfl
theorem m16 : things.map (fun p => F_shows_claim_rt [.d good, .d (.int 0), .d (.int 0), .d (.tuple [.int 0, .int 9]), .d p] sto) = things.map (fun _ => some ((.d (.bool false), false), sto)) := by kernel_rfl
end
def repS (p : P) : Str := (reprP p).getD ""
theorem r1 : (ops ++ spans ++ rows).map (fun p => reprP p) = (ops ++ spans ++ rows).map (fun p => some (repS p)) := by kernel_rfl
end k04
namespace k04
open PySem PySem.Spec L2 PI
/-! ### draws -/
theorem dealt_pos {sto : List (List Int)} {n : Nat} {a b c t : Int} (h : sto[n]? = some [a, b, c]) (ht : 0 < t) (ht2 : t < 1073741824) (ha : 0 < a) : F__law_dealt [.h n, .d (.int t)] sto = some ((.d (.int (a % t)), false), sto.set n [a / t, b, c]) := by
  unfold F__law_dealt bodyFn
  simp [b_114, N_114, List.replicate, sSeq, sIf, bOf, xCmp, xIxA, rVar, rOf, xC, ixA, ixS, h, atI, ixN, gtS, ha, sSet, xBin, xBlt, evRL, intS, modP, ht, ht2, sAsg, gPut, fdivP, sRetV]
theorem dealt_neg {sto : List (List Int)} {n : Nat} {a b c t : Int} (h : sto[n]? = some [a, b, c]) (ht : 0 < t) (ht2 : t < 1073741824) (ha : ¬ 0 < a) : ∃ r, 0 ≤ r ∧ r < t ∧ F__law_dealt [.h n, .d (.int t)] sto = some ((.d (.int r), false), sto.set n [a, b, c + 1]) := by
  have hn : n < sto.length := by
    apply Decidable.byContradiction; intro z
    rw [List.getElem?_eq_none (by omega)] at h; cases h
  have h2 : (sto.set n [a, b, c + 1])[n]? = some [a, b, c + 1] := List.getElem?_set_self hn
  have ho : -18446744073709551616 < (b + 49979687 * (c + 1)) % 2305843009213693951 ∧ (b + 49979687 * (c + 1)) % 2305843009213693951 < 18446744073709551616 := by
    have h1 : 0 ≤ (b + 49979687 * (c + 1)) % 2305843009213693951 := Int.emod_nonneg _ (by decide)
    have h3 : (b + 49979687 * (c + 1)) % 2305843009213693951 < 2305843009213693951 := Int.emod_lt_of_pos _ (by decide)
    omega
  refine ⟨((((b + 49979687 * (c + 1)) % 2305843009213693951) * ((b + 49979687 * (c + 1)) % 2305843009213693951) + 379 * (c + 1)) % 2305843009213693921 * 32416187567 + (b + 49979687 * (c + 1)) % 2305843009213693951) / 65699 % t, Int.emod_nonneg _ (by omega), Int.emod_lt_of_pos _ ht, ?_⟩
  unfold F__law_dealt bodyFn
  simp [b_114, N_114, List.replicate, sSeq, sIf, sNil, bOf, xCmp, xIxA, rVar, rOf, xC, ixA, ixS, h, h2, ho, atI, ixN, gtS, ha, sSet, xBin, xBlt, evRL, intS, modP, addP, mulP, ht, ht2, sAsg, gPut, fdivP, sRet]
theorem set_at {sto : List (List Int)} {n : Nat} {l : List Int} {m : List Int} (h : sto[n]? = some l) : (sto.set n m)[n]? = some m := by
  have hn : n < sto.length := by
    apply Decidable.byContradiction; intro z
    rw [List.getElem?_eq_none (by omega)] at h; cases h
  exact List.getElem?_set_self hn
theorem dealt {sto : List (List Int)} {n : Nat} {a b c t : Int} (h : sto[n]? = some [a, b, c]) (ht : 0 < t) (ht2 : t < 1073741824) : ∃ r a' b' c', 0 ≤ r ∧ r < t ∧ F__law_dealt [.h n, .d (.int t)] sto = some ((.d (.int r), false), sto.set n [a', b', c']) := by
  by_cases ha : 0 < a
  · exact ⟨a % t, a / t, b, c, Int.emod_nonneg _ (by omega), Int.emod_lt_of_pos _ ht, dealt_pos h ht ht2 ha⟩
  · obtain ⟨r, h1, h2, h3⟩ := dealt_neg h ht ht2 ha
    exact ⟨r, a, b, c + 1, h1, h2, h3⟩
theorem picked {sto : List (List Int)} {n : Nat} {a b c : Int} {ps : List P} (h : sto[n]? = some [a, b, c]) (h0 : 0 < ps.length) (h1 : ps.length < 1000) : ∃ p a' b' c', p ∈ ps ∧ F__law_picked [.h n, .d (.list ps)] sto = some ((.d p, false), sto.set n [a', b', c']) := by
  obtain ⟨r, a', b', c', q1, q2, q3⟩ := dealt (t := (ps.length : Int)) h (by omega) (by omega)
  have hr : r.toNat < ps.length := by omega
  have he : atI ps r = some ps[r.toNat] := by
    unfold atI ixN
    rw [if_pos q1, if_pos q2]
    exact List.getElem?_eq_getElem hr
  refine ⟨ps[r.toNat], a', b', c', List.getElem_mem hr, ?_⟩
  unfold F__law_picked bodyFn
  simp [b_115, N_115, List.replicate, sSeq, sNil, xIxA, rVar, rOf, xVar, ixA, ixS, he, xCall, evL, evRL, xBlt, lenS, q3, sRet]
end k04
set_option maxHeartbeats 4000000
namespace k04
open PySem PySem.Spec L2 PI
theorem seq_nx {f g : Sx} {sl sl1 : Slots} {w w1 : PI.W} (h : f sl w = some (.nx, sl1, w1)) : sSeq f g sl w = g sl1 w1 := by
  unfold sSeq; rw [h]
theorem seq_rt {f g : Sx} {sl sl1 : Slots} {w w1 : PI.W} {sv : SV} {b : Bool} (h : f sl w = some (.rt sv b, sl1, w1)) : sSeq f g sl w = some (.rt sv b, sl1, w1) := by
  unfold sSeq; rw [h]
/-- the slots: n the draws' handle -/
def S (n : Nat) (told due thing p1 p5 p3 p2 p4 : Option SV) : Slots := [some (.h n), told, due, thing, some (.d good), p1, p5, p3, p2, p4]
theorem set_call {i : Nat} {F : Fn} {fs : List Ex} {sl : Slots} {w w1 : PI.W} {ss : List SV} {sv : SV} {sto' : List (List Int)} (h1 : evL fs sl w = some (ss, w1)) (h2 : F ss w1.sto = some ((sv, false), sto')) (h3 : i < sl.length) : sSet i (xCall F fs) sl w = some (.nx, sl.set i (some sv), ⟨w1.own.erase i, sto'⟩) := by
  unfold sSet xCall
  rw [h1]; simp only []; rw [h2]; simp only []; rw [if_pos h3]; rfl
theorem met_call {F : FnX} {fs : List Ex} {sl : Slots} {w w1 : PI.W} {ss : List SV} {e : Exn} {p : P} {sto' : List (List Int)} (h1 : evL fs sl w = some (ss, w1)) (h2 : F ss w1.sto = some (.ex e, sto')) (h3 : metP e = some p) : xMet metP (xCallX F fs) sl w = some ((.d p, false), ⟨w1.own, sto'⟩) := by
  unfold xMet xCallX
  rw [h1]; simp only []; rw [h2]; simp only []; rw [h3]
variable {n : Nat} {sto : List (List Int)}
theorem s0 : b_117_0 [some (.h n), none, none, none, none, none, none, none, none, none] ⟨[], sto⟩ = some (.nx, S n none none none none none none none none, ⟨[], sto⟩) := by kernel_rfl
theorem s1 : b_117_1 (S n none none none none none none none none) ⟨[], sto⟩ = some (.nx, S n none none none (some (.d (.list (nones.take 10)))) none none none none, ⟨[5], sto⟩) := by kernel_rfl
theorem s2 : b_117_2 (S n none none none (some (.d (.list (nones.take 10)))) none none none none) ⟨[5], sto⟩ = some (.nx, S n none none none (some (.d (.list (nones.take 13)))) none none none none, ⟨[5], sto⟩) := by kernel_rfl
theorem s3 : b_117_3 (S n none none none (some (.d (.list (nones.take 13)))) none none none none) ⟨[5], sto⟩ = some (.nx, S n none none none (some (.d (.list (nones.take 16)))) none none none none, ⟨[5], sto⟩) := by kernel_rfl
theorem s4 : b_117_4 (S n none none none (some (.d (.list (nones.take 16)))) none none none none) ⟨[5], sto⟩ = some (.nx, S n none none none (some (.d (.list (nones.take 18)))) none none none none, ⟨[5], sto⟩) := by kernel_rfl
variable {sto' : List (List Int)} {p p1 p2 p3 p4 p5 : P}
theorem s5 (q : F__law_picked [.h n, .d (.list nones)] sto = some ((.d p1, false), sto')) : b_117_5 (S n none none none (some (.d (.list (nones.take 18)))) none none none none) ⟨[5], sto⟩ = some (.nx, S n none none none (some (.d p1)) none none none none, ⟨[], sto'⟩) := by
  unfold b_117_5
  exact set_call (ss := [.h n, .d (.list nones)]) (w1 := ⟨[5], sto⟩) (by kernel_rfl) q (show 5 < 10 by decide)
theorem s6 (q : F__law_picked [.h n, .d (.list rows)] sto = some ((.d p2, false), sto')) : b_117_6 (S n none none none (some (.d p1)) none none none none) ⟨[], sto⟩ = some (.nx, S n none none none (some (.d p1)) none none (some (.d p2)) none, ⟨[], sto'⟩) := by
  unfold b_117_6
  exact set_call (ss := [.h n, .d (.list rows)]) (w1 := ⟨[], sto⟩) (by kernel_rfl) q (show 8 < 10 by decide)
theorem s7 (q : F__law_picked [.h n, .d (.list rows)] sto = some ((.d p3, false), sto')) : b_117_7 (S n none none none (some (.d p1)) none none (some (.d p2)) none) ⟨[], sto⟩ = some (.nx, S n none none none (some (.d p1)) none (some (.d p3)) (some (.d p2)) none, ⟨[], sto'⟩) := by
  unfold b_117_7
  exact set_call (ss := [.h n, .d (.list rows)]) (w1 := ⟨[], sto⟩) (by kernel_rfl) q (show 7 < 10 by decide)
theorem s8 (q : F__law_picked [.h n, .d (.list spans)] sto = some ((.d p4, false), sto')) : b_117_8 (S n none none none (some (.d p1)) none (some (.d p3)) (some (.d p2)) none) ⟨[], sto⟩ = some (.nx, S n none none none (some (.d p1)) none (some (.d p3)) (some (.d p2)) (some (.d p4)), ⟨[], sto'⟩) := by
  unfold b_117_8
  exact set_call (ss := [.h n, .d (.list spans)]) (w1 := ⟨[], sto⟩) (by kernel_rfl) q (show 9 < 10 by decide)
theorem s9 (q : F__law_picked [.h n, .d (.list ops)] sto = some ((.d p5, false), sto')) : b_117_9 (S n none none none (some (.d p1)) none (some (.d p3)) (some (.d p2)) (some (.d p4))) ⟨[], sto⟩ = some (.nx, S n none none none (some (.d p1)) (some (.d p5)) (some (.d p3)) (some (.d p2)) (some (.d p4)), ⟨[], sto'⟩) := by
  unfold b_117_9
  exact set_call (ss := [.h n, .d (.list ops)]) (w1 := ⟨[], sto⟩) (by kernel_rfl) q (show 6 < 10 by decide)
/-- the slots behind the draws -/
abbrev T (n : Nat) (told due thing : Option SV) (p1 p2 p3 p4 p5 : P) : Slots := S n told due thing (some (.d p1)) (some (.d p5)) (some (.d p3)) (some (.d p2)) (some (.d p4))
def cd : P := .str "code"
def nu (p : P) : P := .tuple [.str "number", .str (repS p)]
def rw_ (p : P) : P := .tuple [.str "row", .str (repS p)]
theorem met_c : metP exC = some cd := by kernel_rfl
theorem rep_at {p : P} (h : p ∈ ops ++ spans ++ rows) : reprP p = some (repS p) := at_map r1 p h
theorem met_n {p : P} (h : reprP p = some (repS p)) : metP (exN p) = some (nu p) := by
  have e : metP (exN p) = (reprP p).map fun t => .tuple [.str "number", .str t] := by kernel_rfl
  rw [e, h]; rfl
theorem met_r {p : P} (h : reprP p = some (repS p)) : metP (exR p) = some (rw_ p) := by
  have e : metP (exR p) = (reprP p).map fun t => .tuple [.str "row", .str t] := by kernel_rfl
  rw [e, h]; rfl
theorem app_met {k : Nat} {F : FnX} {fs : List Ex} {sl sl' : Slots} {own : List Nat} {w1 : PI.W} {ss : List SV} {e : Exn} {p : P} {l : List P} {sto' : List (List Int)} (h1 : evL fs sl ⟨own, sto⟩ = some (ss, w1)) (h2 : F ss w1.sto = some (.ex e, sto')) (h3 : metP e = some p) (h4 : sl[k]? = some (some (.d (.list l)))) (h5 : k ∈ w1.own) (h6 : l.length < sizeLine) (h7 : sl.set k (some (.d (.list (l ++ [p])))) = sl') :
    sApp k (xMet metP (xCallX F fs)) sl ⟨own, sto⟩ = some (.nx, sl', ⟨w1.own, sto'⟩) := by
  unfold sApp
  rw [met_call h1 h2 h3]; simp only []; rw [h4]; simp only []; rw [if_pos ⟨h5, h6⟩, h7]
theorem s10 (h : p1 ∈ nones) : b_117_10 (T n none none none p1 p2 p3 p4 p5) ⟨[], sto⟩ = some (.nx, T n (some (.d (.list [cd]))) none none p1 p2 p3 p4 p5, ⟨[1], sto⟩) := by
  unfold b_117_10 sSet xLst evD
  rw [met_call (ss := [.d p1]) (w1 := ⟨[], sto⟩) (by kernel_rfl) (at_map (m1 sto) p1 h) met_c]
  kernel_rfl
theorem s11 (h1 : p1 ∈ nones) : b_117_11 (T n (some (.d (.list [cd]))) none none p1 p2 p3 p4 p5) ⟨[1], sto⟩ = some (.nx, T n (some (.d (.list [cd, cd]))) none none p1 p2 p3 p4 p5, ⟨[1], sto⟩) := by
  unfold b_117_11
  exact app_met (ss := [.d p1]) (w1 := ⟨[1], sto⟩) (by kernel_rfl) (at_map (m2 sto) p1 h1) met_c rfl (by simp) (show 1 < sizeLine by decide +kernel) rfl
theorem s12 (h1 : p1 ∈ nones) : b_117_12 (T n (some (.d (.list [cd, cd]))) none none p1 p2 p3 p4 p5) ⟨[1], sto⟩ = some (.nx, T n (some (.d (.list [cd, cd, cd]))) none none p1 p2 p3 p4 p5, ⟨[1], sto⟩) := by
  unfold b_117_12
  exact app_met (ss := [.d p1, .d .none]) (w1 := ⟨[1], sto⟩) (by kernel_rfl) (at_map (m3 sto) p1 h1) met_c rfl (by simp) (show 2 < sizeLine by decide +kernel) rfl
theorem s13 (h5 : p5 ∈ ops) (r5 : reprP p5 = some (repS p5)) : b_117_13 (T n (some (.d (.list [cd, cd, cd]))) none none p1 p2 p3 p4 p5) ⟨[1], sto⟩ = some (.nx, T n (some (.d (.list [cd, cd, cd, nu p5]))) none none p1 p2 p3 p4 p5, ⟨[1], sto⟩) := by
  unfold b_117_13
  exact app_met (ss := [.d p5, .d p4, .d p4]) (w1 := ⟨[1], sto⟩) (by kernel_rfl) (at_map (m4 sto p4 p4) p5 h5) (met_n r5) rfl (by simp) (show 3 < sizeLine by decide +kernel) rfl
theorem s14 (h4 : p4 ∈ spans) (r4 : reprP p4 = some (repS p4)) : b_117_14 (T n (some (.d (.list [cd, cd, cd, nu p5]))) none none p1 p2 p3 p4 p5) ⟨[1], sto⟩ = some (.nx, T n (some (.d (.list [cd, cd, cd, nu p5, nu p4]))) none none p1 p2 p3 p4 p5, ⟨[1], sto⟩) := by
  unfold b_117_14
  exact app_met (ss := [.d (.str "+"), .d p4, .d p5]) (w1 := ⟨[1], sto⟩) (by kernel_rfl) (at_map (m5 sto p5) p4 h4) (met_n r4) rfl (by simp) (show 4 < sizeLine by decide +kernel) rfl
theorem s15 (h4 : p4 ∈ spans) (r4 : reprP p4 = some (repS p4)) : b_117_15 (T n (some (.d (.list [cd, cd, cd, nu p5, nu p4]))) none none p1 p2 p3 p4 p5) ⟨[1], sto⟩ = some (.nx, T n (some (.d (.list [cd, cd, cd, nu p5, nu p4, nu p4]))) none none p1 p2 p3 p4 p5, ⟨[1], sto⟩) := by
  unfold b_117_15
  exact app_met (ss := [.d (.str "+"), .d (.tuple [.int 0, .int 1]), .d p4]) (w1 := ⟨[1], sto⟩) (by kernel_rfl) (at_map (m6 sto) p4 h4) (met_n r4) rfl (by simp) (show 5 < sizeLine by decide +kernel) rfl
theorem s16 (h1 : p1 ∈ nones) : b_117_16 (T n (some (.d (.list [cd, cd, cd, nu p5, nu p4, nu p4]))) none none p1 p2 p3 p4 p5) ⟨[1], sto⟩ = some (.nx, T n (some (.d (.list [cd, cd, cd, nu p5, nu p4, nu p4, cd]))) none none p1 p2 p3 p4 p5, ⟨[1], sto⟩) := by
  unfold b_117_16
  exact app_met (ss := [.d p1, .d p2, .d p3, .d p4]) (w1 := ⟨[1], sto⟩) (by kernel_rfl) (at_map (m7 sto p2 p3 p4) p1 h1) met_c rfl (by simp) (show 6 < sizeLine by decide +kernel) rfl
theorem s17 (h2 : p2 ∈ rows) (r2 : reprP p2 = some (repS p2)) : b_117_17 (T n (some (.d (.list [cd, cd, cd, nu p5, nu p4, nu p4, cd]))) none none p1 p2 p3 p4 p5) ⟨[1], sto⟩ = some (.nx, T n (some (.d (.list [cd, cd, cd, nu p5, nu p4, nu p4, cd, rw_ p2]))) none none p1 p2 p3 p4 p5, ⟨[1], sto⟩) := by
  unfold b_117_17
  exact app_met (ss := [.d good, .d p2, .d p3, .d p4]) (w1 := ⟨[1], sto⟩) (by kernel_rfl) (at_map (m8 sto p3 p4) p2 h2) (met_r r2) rfl (by simp) (show 7 < sizeLine by decide +kernel) rfl
theorem s18 (h3 : p3 ∈ rows) (r3 : reprP p3 = some (repS p3)) : b_117_18 (T n (some (.d (.list [cd, cd, cd, nu p5, nu p4, nu p4, cd, rw_ p2]))) none none p1 p2 p3 p4 p5) ⟨[1], sto⟩ = some (.nx, T n (some (.d (.list [cd, cd, cd, nu p5, nu p4, nu p4, cd, rw_ p2, nu p3]))) none none p1 p2 p3 p4 p5, ⟨[1], sto⟩) := by
  unfold b_117_18
  exact app_met (ss := [.d good, .d (.int 0), .d p3, .d p4]) (w1 := ⟨[1], sto⟩) (by kernel_rfl) (at_map (m9 sto p4) p3 h3) (met_n r3) rfl (by simp) (show 8 < sizeLine by decide +kernel) rfl
theorem s19 (h4 : p4 ∈ spans) (r4 : reprP p4 = some (repS p4)) : b_117_19 (T n (some (.d (.list [cd, cd, cd, nu p5, nu p4, nu p4, cd, rw_ p2, nu p3]))) none none p1 p2 p3 p4 p5) ⟨[1], sto⟩ = some (.nx, T n (some (.d (.list [cd, cd, cd, nu p5, nu p4, nu p4, cd, rw_ p2, nu p3, nu p4]))) none none p1 p2 p3 p4 p5, ⟨[1], sto⟩) := by
  unfold b_117_19
  exact app_met (ss := [.d good, .d (.int 0), .d (.int 1), .d p4]) (w1 := ⟨[1], sto⟩) (by kernel_rfl) (at_map (m10 sto) p4 h4) (met_n r4) rfl (by simp) (show 9 < sizeLine by decide +kernel) rfl
theorem s20 (h1 : p1 ∈ nones) : b_117_20 (T n (some (.d (.list [cd, cd, cd, nu p5, nu p4, nu p4, cd, rw_ p2, nu p3, nu p4]))) none none p1 p2 p3 p4 p5) ⟨[1], sto⟩ = some (.nx, T n (some (.d (.list [cd, cd, cd, nu p5, nu p4, nu p4, cd, rw_ p2, nu p3, nu p4, cd]))) none none p1 p2 p3 p4 p5, ⟨[1], sto⟩) := by
  unfold b_117_20
  exact app_met (ss := [.d p1, .d p2, .d p3, .d p4, .d .none]) (w1 := ⟨[1], sto⟩) (by kernel_rfl) (at_map (m11 sto p2 p3 p4) p1 h1) met_c rfl (by simp) (show 10 < sizeLine by decide +kernel) rfl
theorem s21 (h2 : p2 ∈ rows) (r2 : reprP p2 = some (repS p2)) : b_117_21 (T n (some (.d (.list [cd, cd, cd, nu p5, nu p4, nu p4, cd, rw_ p2, nu p3, nu p4, cd]))) none none p1 p2 p3 p4 p5) ⟨[1], sto⟩ = some (.nx, T n (some (.d (.list [cd, cd, cd, nu p5, nu p4, nu p4, cd, rw_ p2, nu p3, nu p4, cd, rw_ p2]))) none none p1 p2 p3 p4 p5, ⟨[1], sto⟩) := by
  unfold b_117_21
  exact app_met (ss := [.d good, .d p2, .d p3, .d p4, .d .none]) (w1 := ⟨[1], sto⟩) (by kernel_rfl) (at_map (m12 sto p3 p4) p2 h2) (met_r r2) rfl (by simp) (show 11 < sizeLine by decide +kernel) rfl
theorem s22 (h3 : p3 ∈ rows) (r3 : reprP p3 = some (repS p3)) : b_117_22 (T n (some (.d (.list [cd, cd, cd, nu p5, nu p4, nu p4, cd, rw_ p2, nu p3, nu p4, cd, rw_ p2]))) none none p1 p2 p3 p4 p5) ⟨[1], sto⟩ = some (.nx, T n (some (.d (.list [cd, cd, cd, nu p5, nu p4, nu p4, cd, rw_ p2, nu p3, nu p4, cd, rw_ p2, nu p3]))) none none p1 p2 p3 p4 p5, ⟨[1], sto⟩) := by
  unfold b_117_22
  exact app_met (ss := [.d good, .d (.int 0), .d p3, .d p4, .d .none]) (w1 := ⟨[1], sto⟩) (by kernel_rfl) (at_map (m13 sto p4) p3 h3) (met_n r3) rfl (by simp) (show 12 < sizeLine by decide +kernel) rfl
theorem s23 (h4 : p4 ∈ spans) (r4 : reprP p4 = some (repS p4)) : b_117_23 (T n (some (.d (.list [cd, cd, cd, nu p5, nu p4, nu p4, cd, rw_ p2, nu p3, nu p4, cd, rw_ p2, nu p3]))) none none p1 p2 p3 p4 p5) ⟨[1], sto⟩ = some (.nx, T n (some (.d (.list [cd, cd, cd, nu p5, nu p4, nu p4, cd, rw_ p2, nu p3, nu p4, cd, rw_ p2, nu p3, nu p4]))) none none p1 p2 p3 p4 p5, ⟨[1], sto⟩) := by
  unfold b_117_23
  exact app_met (ss := [.d good, .d (.int 0), .d (.int 1), .d p4, .d .none]) (w1 := ⟨[1], sto⟩) (by kernel_rfl) (at_map (m14 sto) p4 h4) (met_n r4) rfl (by simp) (show 13 < sizeLine by decide +kernel) rfl
def all (p2 p3 p4 p5 : P) : List P := [cd, cd, cd, nu p5, nu p4, nu p4, cd, rw_ p2, nu p3, nu p4, cd, rw_ p2, nu p3, nu p4]
theorem s24 (r5 : reprP p5 = some (repS p5)) (r4 : reprP p4 = some (repS p4)) {told : Option SV} : b_117_24 (T n told none none p1 p2 p3 p4 p5) ⟨[1], sto⟩ = some (.nx, T n told (some (.d (.list [cd, cd, cd, nu p5, nu p4, nu p4]))) none p1 p2 p3 p4 p5, ⟨[2, 1], sto⟩) := by
  unfold b_117_24
  have z1 : (3 : Nat) ≤ sizeLine := by decide +kernel
  have z2 : (2 : Nat) ≤ sizeLine := by decide +kernel
  have z3 : (6 : Nat) ≤ sizeLine := by decide +kernel
  have z4 : (1 : Nat) ≤ sizeLine := by decide +kernel
  simp [sSet, xBin, rOf, xLst, evD, xTup, xC, xRepr, xVar, T, S, r5, r4, z1, z2, z3, z4, mulP, addP, cd, nu, List.replicate]
theorem s25 (r2 : reprP p2 = some (repS p2)) (r3 : reprP p3 = some (repS p3)) (r4 : reprP p4 = some (repS p4)) {told : Option SV} : b_117_25 (T n told (some (.d (.list [cd, cd, cd, nu p5, nu p4, nu p4]))) none p1 p2 p3 p4 p5) ⟨[2, 1], sto⟩ = some (.nx, T n told (some (.d (.list (all p2 p3 p4 p5)))) none p1 p2 p3 p4 p5, ⟨[2, 1], sto⟩) := by
  unfold b_117_25
  have z1 : (4 : Nat) ≤ sizeLine := by decide +kernel
  have z2 : (2 : Nat) ≤ sizeLine := by decide +kernel
  have z3 : (14 : Nat) ≤ sizeLine := by decide +kernel
  simp [sSet, xBin, rOf, xLst, evD, xTup, xC, xRepr, xVar, rVar, T, S, r2, r3, r4, z1, z2, z3, mulP, addP, cd, nu, rw_, all, List.replicate]
theorem eqv_all : PyData.eqv (.list (all p2 p3 p4 p5)) (.list (all p2 p3 p4 p5)) = true := PySem.W.eqv_refl_alike _ (by kernel_rfl)
theorem ok1 : (ops ++ spans ++ rows).map (fun p => PyData.strOk (repS p)) = (ops ++ spans ++ rows).map (fun _ => true) := by kernel_rfl
theorem ok_at {p : P} (h : p ∈ ops ++ spans ++ rows) : PyData.strOk (repS p) = true := at_map ok1 p h
theorem ok_cd : PyData.strOk "code" = true := by kernel_rfl
theorem ok_nu : PyData.strOk "number" = true := by kernel_rfl
theorem ok_rw : PyData.strOk "row" = true := by kernel_rfl
theorem shaped_all (o2 : PyData.strOk (repS p2) = true) (o3 : PyData.strOk (repS p3) = true) (o4 : PyData.strOk (repS p4) = true) (o5 : PyData.strOk (repS p5) = true) : SeqAt.shaped (.list (all p2 p3 p4 p5)) = true := by
  have e1 : PyData.canLay0 (.list (all p2 p3 p4 p5)) = true := by simp [PyData.canLay0, PyData.canLayAll0, all, cd, nu, rw_, o2, o3, o4, o5, ok_cd, ok_nu, ok_rw]
  have e2 : decide ((PyData.list (all p2 p3 p4 p5)).depth ≤ 64) = true := by kernel_rfl
  unfold SeqAt.shaped
  rw [e1, e2]; rfl
theorem s26 (o2 : PyData.strOk (repS p2) = true) (o3 : PyData.strOk (repS p3) = true) (o4 : PyData.strOk (repS p4) = true) (o5 : PyData.strOk (repS p5) = true) : b_117_26 (T n (some (.d (.list (all p2 p3 p4 p5)))) (some (.d (.list (all p2 p3 p4 p5)))) none p1 p2 p3 p4 p5) ⟨[2, 1], sto⟩ = some (.nx, T n (some (.d (.list (all p2 p3 p4 p5)))) (some (.d (.list (all p2 p3 p4 p5)))) none p1 p2 p3 p4 p5, ⟨[2, 1], sto⟩) := by
  unfold b_117_26
  simp [sIf, bOf, xCmp, rVar, T, S, neS, shaped_all o2 o3 o4 o5, eqv_all, sNil]
/-! ### the loop -/
def body27 : Sx := (sSeq (sIf (bOr [(bOf (xIsB true false (rOf (xCall F_is_span_sheet_rt [(xVar 4), (xVar 3)])))), (bOf (xIsB true false (rOf (xCall F_shows_claim_rt [(xVar 4), (xC (.int 0)), (xC (.int 0)), (xTup [(false, (xC (.int 0))), (false, (xC (.int 9)))]), (xVar 3)]))))]) (sSeq (sRet (xC (.bool false))) sNil) sNil) sNil)
theorem turn27 {p : P} (h : p ∈ things) {told due : Option SV} : body27 (T n told due (some (.d p)) p1 p2 p3 p4 p5) ⟨[2, 1], sto⟩ = some (.nx, T n told due (some (.d p)) p1 p2 p3 p4 p5, ⟨[2, 1], sto⟩) := by
  have a1 := at_map (m15 sto) p h
  have a2 := at_map (m16 sto) p h
  have z : (2 : Nat) ≤ sizeLine := by decide +kernel
  simp [body27, sSeq, sIf, bOr, bOf, xIsB, rOf, xCall, evL, xVar, T, S, a1, a2, xC, xTup, evD, z, sNil]
theorem loop27 {told due : Option SV} : ∀ (l : List P) (th : Option SV), (∀ p ∈ l, p ∈ things) → ∃ th', forGo (gV 3) body27 l (T n told due th p1 p2 p3 p4 p5) ⟨[2, 1], sto⟩ = some (.nx, T n told due th' p1 p2 p3 p4 p5, ⟨[2, 1], sto⟩)
  | [], th, _ => ⟨th, rfl⟩
  | p :: l, th, h => by
    obtain ⟨th', e⟩ := loop27 l (some (.d p)) (fun q hq => h q (List.mem_cons_of_mem _ hq))
    refine ⟨th', ?_⟩
    have e1 : gV 3 (.d p) (T n told due th p1 p2 p3 p4 p5) ⟨[2, 1], sto⟩ = some (T n told due (some (.d p)) p1 p2 p3 p4 p5, ⟨[2, 1], sto⟩) := rfl
    unfold forGo
    rw [e1]; simp only []; rw [turn27 (h p List.mem_cons_self)]; simp only []; exact e
theorem s27 (h1 : p1 ∈ nones) (h2 : p2 ∈ rows) (h3 : p3 ∈ rows) (h4 : p4 ∈ spans) (h5 : p5 ∈ ops) {told due : Option SV} : ∃ th, b_117_27 (T n told due none p1 p2 p3 p4 p5) ⟨[2, 1], sto⟩ = some (.nx, T n told due th p1 p2 p3 p4 p5, ⟨[2, 1], sto⟩) := by
  obtain ⟨th, e⟩ := loop27 (n := n) (sto := sto) (p1 := p1) (p2 := p2) (p3 := p3) (p4 := p4) (p5 := p5) (told := told) (due := due) ([p1, p2, p3, p4, p5] ++ consts) none (fun p hp => by
    unfold things
    simp only [List.mem_append, List.mem_cons, List.not_mem_nil, or_false] at hp ⊢
    rcases hp with (rfl | rfl | rfl | rfl | rfl) | hp
    · exact .inl (.inl (.inl (.inl h1)))
    · exact .inl (.inl (.inl (.inr h2)))
    · exact .inl (.inl (.inl (.inr h3)))
    · exact .inl (.inl (.inr h4))
    · exact .inl (.inr h5)
    · exact .inr hp)
  refine ⟨th, ?_⟩
  unfold b_117_27 sFor
  have e2 : (iSeq (xLst [(false, (xVar 5)), (false, (xVar 8)), (false, (xVar 7)), (false, (xVar 9)), (false, (xVar 6)), (false, xEmp), (false, (xLst [(false, (xLst []))])), (false, (xTup [(false, (xC (.str "kept"))), (false, xEmp)])), (false, (xTup [(false, (xC (.str "left"))), (false, xEmp)])), (false, (xTup [(false, (xC (.str "unsure"))), (false, (xTup [(false, xEmp), (false, xEmp)]))])), (false, (xTup [(false, xEmp), (false, (xTup []))])), (false, (xTup [(false, (xC (.str "kept"))), (false, (xTup [(false, (xTup [(false, (xTup [])), (false, (xTup []))])), (false, (xC (.none)))]))]))])) (T n told due none p1 p2 p3 p4 p5) ⟨[2, 1], sto⟩ = some ([p1, p2, p3, p4, p5] ++ consts, ⟨[2, 1], sto⟩) := by kernel_rfl
  rw [e2]
  exact e
/-! ### the end -/
def sheet : P := match F_span_sheet_rt [.d good] [] with
  | some ((.d p, _), _) => p
  | _ => .none
theorem m17 : F_span_sheet_rt [.d good] sto = some ((.d sheet, false), sto) := by kernel_rfl
theorem m18 : F_shows_claim_rt [.d good, .d (.int 0), .d (.int 0), .d (.tuple [.int 0, .int 9]), .d (.tuple [.str "kept", sheet])] sto = some ((.d (.bool true), false), sto) := by kernel_rfl
end k04
set_option maxHeartbeats 4000000
namespace k04
open PySem PySem.Spec L2 PI
variable {n : Nat} {sto : List (List Int)} {p1 p2 p3 p4 p5 : P}
theorem s28 {told due th : Option SV} : b_117_28 (T n told due th p1 p2 p3 p4 p5) ⟨[2, 1], sto⟩ = some (.rt (.d (.bool true)) false, T n told due th p1 p2 p3 p4 p5, ⟨[2, 1], sto⟩) := by
  have z : (2 : Nat) ≤ sizeLine := by decide +kernel
  have a1 := m17 (sto := sto)
  have a2 := m18 (sto := sto)
  unfold b_117_28
  simp [sRet, xIsB, rOf, xCall, evL, xVar, T, S, xC, xTup, evD, z, a1, a2]
theorem right_ok {a b c : Int} (h : sto[n]? = some [a, b, c]) : ∃ a' b' c', F__law_right [.h n] sto = some ((.d (.bool true), false), sto.set n [a', b', c']) := by
  obtain ⟨p1, a1, b1, c1, h1, q1⟩ := picked (ps := nones) h (by decide) (by decide)
  have k1 := set_at (m := [a1, b1, c1]) h
  obtain ⟨p2, a2, b2, c2, h2, q2⟩ := picked (ps := rows) k1 (by decide) (by decide)
  have k2 := set_at (m := [a2, b2, c2]) k1
  obtain ⟨p3, a3, b3, c3, h3, q3⟩ := picked (ps := rows) k2 (by decide) (by decide)
  have k3 := set_at (m := [a3, b3, c3]) k2
  obtain ⟨p4, a4, b4, c4, h4, q4⟩ := picked (ps := spans) k3 (by decide) (by decide)
  have k4 := set_at (m := [a4, b4, c4]) k3
  obtain ⟨p5, a5, b5, c5, h5, q5⟩ := picked (ps := ops) k4 (by decide) (by decide)
  have m5 : p5 ∈ ops ++ spans ++ rows := List.mem_append_left _ (List.mem_append_left _ h5)
  have m4 : p4 ∈ ops ++ spans ++ rows := List.mem_append_left _ (List.mem_append_right _ h4)
  have m3 : p3 ∈ ops ++ spans ++ rows := List.mem_append_right _ h3
  have m2 : p2 ∈ ops ++ spans ++ rows := List.mem_append_right _ h2
  have r2 := rep_at m2
  have r3 := rep_at m3
  have r4 := rep_at m4
  have r5 := rep_at m5
  refine ⟨a5, b5, c5, ?_⟩
  simp only [List.set_set] at q2 q3 q4 q5
  unfold F__law_right bodyFn
  rw [if_pos (show [SV.h n].length = 1 from rfl)]
  obtain ⟨th, e27⟩ := s27 (n := n) (sto := sto.set n [a5, b5, c5]) h1 h2 h3 h4 h5 (told := some (.d (.list (all p2 p3 p4 p5)))) (due := some (.d (.list (all p2 p3 p4 p5))))
  have run : b_117 ([SV.h n].map some ++ List.replicate (N_117.length - 1) none) ⟨[], sto⟩ = some (.rt (.d (.bool true)) false, T n (some (.d (.list (all p2 p3 p4 p5)))) (some (.d (.list (all p2 p3 p4 p5)))) th p1 p2 p3 p4 p5, ⟨[2, 1], sto.set n [a5, b5, c5]⟩) := by
    have e0 : [SV.h n].map some ++ List.replicate (N_117.length - 1) none = [some (.h n), none, none, none, none, none, none, none, none, none] := rfl
    have ea : [cd, cd, cd, nu p5, nu p4, nu p4, cd, rw_ p2, nu p3, nu p4, cd, rw_ p2, nu p3, nu p4] = all p2 p3 p4 p5 := rfl
    rw [e0]
    unfold b_117
    rw [seq_nx s0, seq_nx s1, seq_nx s2, seq_nx s3, seq_nx s4, seq_nx (s5 q1), seq_nx (s6 q2), seq_nx (s7 q3), seq_nx (s8 q4), seq_nx (s9 q5), seq_nx (s10 h1), seq_nx (s11 h1), seq_nx (s12 h1), seq_nx (s13 h5 r5), seq_nx (s14 h4 r4), seq_nx (s15 h4 r4), seq_nx (s16 h1), seq_nx (s17 h2 r2), seq_nx (s18 h3 r3), seq_nx (s19 h4 r4), seq_nx (s20 h1), seq_nx (s21 h2 r2), seq_nx (s22 h3 r3), seq_nx (s23 h4 r4), ea, seq_nx (s24 r5 r4), seq_nx (s25 r2 r3 r4), seq_nx (s26 (ok_at m2) (ok_at m3) (ok_at m4) (ok_at m5)), seq_nx e27, seq_rt s28]
  rw [run]
/-! ### the law -/
theorem mul_r {a b : Int} (h : -(2 ^ 64) < b ∧ b < 2 ^ 64) : mulP (.int a) (.int b) = some (.int (a * b), false) := by
  exact if_pos (Or.inr h)
theorem mul_l {a b : Int} (h : -(2 ^ 64) < a ∧ a < 2 ^ 64) : mulP (.int a) (.int b) = some (.int (a * b), false) := by
  exact if_pos (Or.inl h)
def mixed (cell great spot : Int) : Int := great % 2305843009213693907 * 167 + 1187 * spot + 103 * (if decide (cell < 0) = true then 1 else 0) + 73
theorem tin0 {ns : List Int} {spot : Nat} (hs : spot < 4) : ∃ cell : Int, b_113_0 [some (.z ns), some (.d (.int spot)), none, none, none] ⟨[], sto⟩ = some (.nx, [some (.z ns), some (.d (.int spot)), some (.d (.int cell)), none, none], ⟨[], sto⟩) := by
  by_cases hl : spot < ns.length
  · have at0 : atI ns (spot : Int) = some ns[spot] := by
      unfold atI ixN
      rw [if_pos (by omega), if_pos (by omega)]
      exact List.getElem?_eq_getElem (by simpa using hl)
    have lt : decide ((spot : Int) < (ns.length : Int)) = true := decide_eq_true (by omega)
    refine ⟨ns[spot], ?_⟩
    simp only [b_113_0, sSet, xIf, bOf, xCmp, rVar, rOf, xBlt, evRL, lenS, ltS, lt, List.getElem?_cons_zero, List.getElem?_cons_succ, xIxA, ixA, ixS, at0, intS, Option.map]
    rfl
  · have lt : decide ((spot : Int) < (ns.length : Int)) = false := decide_eq_false (by omega)
    have mu : mulP (.int 1049) (.int (spot : Int)) = some (.int (1049 * (spot : Int)), false) := mul_l (by decide)
    refine ⟨1049 * (spot : Int) + 137, ?_⟩
    simp only [b_113_0, sSet, xIf, bOf, xCmp, rVar, rOf, xBlt, evRL, lenS, ltS, lt, List.getElem?_cons_zero, List.getElem?_cons_succ, xBin, xC, mu, addP]
    rfl
theorem tin1 {z0 : SV} {spot : Nat} {cell : Int} : b_113_1 [some z0, some (.d (.int spot)), some (.d (.int cell)), none, none] ⟨[], sto⟩ = some (.nx, [some z0, some (.d (.int spot)), some (.d (.int cell)), some (.d (.int ((if cell < 0 then -cell else cell) % (10 ^ 42) ^ 6))), none], ⟨[], sto⟩) := by kernel_rfl
theorem tin2 {z0 : SV} {spot : Nat} {cell great : Int} : b_113_2 [some z0, some (.d (.int spot)), some (.d (.int cell)), some (.d (.int great)), none] ⟨[], sto⟩ = some (.nx, [some z0, some (.d (.int spot)), some (.d (.int cell)), some (.d (.int great)), some (.d (.int (mixed cell great spot)))], ⟨[], sto⟩) := by
  have m1 : mulP (.int (great % 2305843009213693907)) (.int 167) = some (.int (great % 2305843009213693907 * 167), false) := mul_r (by decide)
  have m2 : mulP (.int 1187) (.int (spot : Int)) = some (.int (1187 * (spot : Int)), false) := mul_l (by decide)
  have m3 : mulP (.int 103) (.int (if decide (cell < 0) = true then 1 else 0)) = some (.int (103 * (if decide (cell < 0) = true then 1 else 0)), false) := mul_l (by decide)
  have md : modP (.int great) (.int 2305843009213693907) = some (.int (great % 2305843009213693907), false) := by kernel_rfl
  simp only [b_113_2, sSet, xBin, rOf, xBlt, evRL, intS, rVar, xC, List.getElem?_cons_zero, List.getElem?_cons_succ, md, m1, m2, xCmp, ltS, m3, addP]
  rfl
theorem tin3 {z0 : SV} {spot : Nat} {cell great mx : Int} : b_113_3 [some z0, some (.d (.int spot)), some (.d (.int cell)), some (.d (.int great)), some (.d (.int mx))] ⟨[], sto⟩ = some (.rt (.d (.list [.int (if great - 10 ^ 17 > 0 then great - 10 ^ 17 else 0), .int mx, .int 0])) true, [some z0, some (.d (.int spot)), some (.d (.int cell)), some (.d (.int great)), some (.d (.int mx))], ⟨[], sto⟩) := by kernel_rfl
theorem tin_ok {ns : List Int} {spot : Nat} (hs : spot < 4) : ∃ a b : Int, F__law_tin [.z ns, .d (.int spot)] sto = some ((.d (.list [.int a, .int b, .int 0]), true), sto) := by
  obtain ⟨cell, e0⟩ := tin0 (sto := sto) (ns := ns) hs
  let great : Int := (if cell < 0 then -cell else cell) % (10 ^ 42) ^ 6
  refine ⟨if great - 10 ^ 17 > 0 then great - 10 ^ 17 else 0, mixed cell great spot, ?_⟩
  unfold F__law_tin bodyFn
  rw [if_pos (show [SV.z ns, SV.d (.int (spot : Int))].length = 2 from rfl)]
  have run : b_113 ([SV.z ns, SV.d (.int (spot : Int))].map some ++ List.replicate (N_113.length - 2) none) ⟨[], sto⟩ = some (.rt (.d (.list [.int (if great - 10 ^ 17 > 0 then great - 10 ^ 17 else 0), .int (mixed cell great spot), .int 0])) true, [some (.z ns), some (.d (.int spot)), some (.d (.int cell)), some (.d (.int great)), some (.d (.int (mixed cell great spot)))], ⟨[], sto⟩) := by
    have e1 : [SV.z ns, SV.d (.int (spot : Int))].map some ++ List.replicate (N_113.length - 2) none = [some (.z ns), some (.d (.int spot)), none, none, none] := rfl
    rw [e1]
    unfold b_113
    rw [seq_nx e0, seq_nx tin1, seq_nx tin2, seq_rt tin3]
  rw [run]
/-! ### the law's loop -/
def body0 : Sx := (sSeq (sSetH 2 (xCall F__law_tin [(xVar 0), (xVar 1)])) (sSeq (sIf (bOr [(bNot (bOf (xCall F__law_right [(xVar 2)]))), (bNot (bOf (xCall F__law_right [(xVar 2)])))]) (sSeq (sRet (xC (.bool false))) sNil) sNil) sNil))
theorem turn {ns : List Int} {spot : Nat} (hs : spot < 4) {tin : Option SV} : ∃ tin' sto', body0 [some (.z ns), some (.d (.int spot)), tin, none, none, none] ⟨[], sto⟩ = some (.nx, [some (.z ns), some (.d (.int spot)), tin', none, none, none], ⟨[], sto'⟩) := by
  obtain ⟨a, b, e1⟩ := tin_ok (sto := sto) (ns := ns) hs
  have k0 : (sto ++ [[a, b, 0]])[sto.length]? = some [a, b, 0] := by simp
  obtain ⟨a1, b1, c1, e2⟩ := right_ok k0
  have k1 := set_at (m := [a1, b1, c1]) k0
  obtain ⟨a2, b2, c2, e3⟩ := right_ok k1
  simp at e2 e3
  refine ⟨some (.h sto.length), sto ++ [[a2, b2, c2]], ?_⟩
  simp [body0, sSeq, sSetH, xCall, evL, xVar, e1, intsP, sIf, bOr, bNot, bOf, e2, e3, sNil]
theorem loop {ns : List Int} : ∀ (l : List Nat) (spot tin : Option SV) (sto : List (List Int)), (∀ k ∈ l, k < 4) → ∃ spot' tin' sto', forGo (gV 1) body0 (l.map fun k => PyData.int (k : Nat)) [some (.z ns), spot, tin, none, none, none] ⟨[], sto⟩ = some (.nx, [some (.z ns), spot', tin', none, none, none], ⟨[], sto'⟩)
  | [], spot, tin, sto, _ => ⟨spot, tin, sto, rfl⟩
  | k :: l, spot, tin, sto, h => by
    obtain ⟨tin', sto1, e1⟩ := turn (sto := sto) (ns := ns) (h k List.mem_cons_self) (tin := tin)
    obtain ⟨s', t', sto2, e2⟩ := loop l (some (.d (.int k))) tin' sto1 fun q hq => h q (List.mem_cons_of_mem _ hq)
    refine ⟨s', t', sto2, ?_⟩
    have e0 : gV 1 (.d (.int (k : Nat))) [some (.z ns), spot, tin, none, none, none] ⟨[], sto⟩ = some ([some (.z ns), some (.d (.int k)), tin, none, none, none], ⟨[], sto⟩) := rfl
    rw [List.map_cons]
    unfold forGo
    rw [e0]; simp only []; rw [e1]; simp only []; exact e2
theorem l0 {ns : List Int} (h : ns.length ≤ 63) : ∃ spot tin sto', b_118_0 [some (.z ns), none, none, none, none, none] ⟨[], []⟩ = some (.nx, [some (.z ns), spot, tin, none, none, none], ⟨[], sto'⟩) := by
  let m : Int := if (if ((ns.length : Nat) : Int) < 4 then ((ns.length : Nat) : Int) else 4) > 1 then (if ((ns.length : Nat) : Int) < 4 then ((ns.length : Nat) : Int) else 4) else 1
  have hm : 1 ≤ m ∧ m ≤ 4 := by
    simp only [m]
    split <;> split <;> omega
  have e1 : iRng [(xBlt max2S [(rOf (xC (.int 1))), (rOf (xBlt min2S [(rOf (xC (.int 4))), (rOf (xBlt lenS [(rVar 0)]))]))])] [some (.z ns), none, none, none, none, none] ⟨[], []⟩ = some ((List.range m.toNat).map fun k => PyData.int (k : Nat), ⟨[], []⟩) := by
    have hb : bd62 m = true := by unfold bd62; rw [Bool.and_eq_true, decide_eq_true_eq, decide_eq_true_eq]; omega
    have e0 : evL [(xBlt max2S [(rOf (xC (.int 1))), (rOf (xBlt min2S [(rOf (xC (.int 4))), (rOf (xBlt lenS [(rVar 0)]))]))])] [some (.z ns), none, none, none, none, none] ⟨[], []⟩ = some ([.d (.int m)], ⟨[], []⟩) := rfl
    unfold iRng
    rw [e0]; simp only [rngP]; rw [if_pos hb]
  obtain ⟨s', t', sto2, e2⟩ := loop (ns := ns) (List.range m.toNat) none none [] fun k hk => by
    have := List.mem_range.mp hk; omega
  refine ⟨s', t', sto2, ?_⟩
  unfold b_118_0 sFor
  rw [e1]
  exact e2
theorem z2 : (2 : Nat) ≤ sizeLine := by decide +kernel
def askW : P := pT [pT [pI 0, pI 19], pT [pI 0, pI 20]]
def askF : P := pT [pT [pI 0, pI 19], pT [pI 0, pI 19]]
def ends : P := pT [pT [pS "end"]]
def wideP : P := pT [askW, pI 2, pI 1, pT [], ends]
def fullP : P := pT [askF, pI 2, pI 1, pT [], ends]
section
variable {z0 : SV} {spot tin : Option SV} {sto : List (List Int)}
theorem w1 : F_claim_paper [.d wideP, .d (.int 0), .d (.int 0), .d (.tuple [.int 0, .int 19])] sto = some (.ex ⟨"TooWide", none⟩, sto) := by kernel_rfl
theorem w2 : F_shows_claim [.d wideP, .d (.int 0), .d (.int 0), .d (.tuple [.int 0, .int 19]), .d .none] sto = some (.ex ⟨"TooWide", none⟩, sto) := by kernel_rfl
theorem w3 : F_claim_paper [.d wideP, .d (.int 0), .d (.int 0), .d (.tuple [.int 1, .int 0])] sto = some (.ex (exN (.tuple [.int 1, .int 0])), sto) := by kernel_rfl
theorem l1 : b_118_1 [some z0, spot, tin, none, none, none] ⟨[], sto⟩ = some (.nx, [some z0, spot, tin, none, none, some (.d wideP)], ⟨[], sto⟩) := by kernel_rfl
theorem l2 : b_118_2 [some z0, spot, tin, none, none, some (.d wideP)] ⟨[], sto⟩ = some (.nx, [some z0, spot, tin, some (.d fullP), none, some (.d wideP)], ⟨[], sto⟩) := by kernel_rfl
def toldL : P := .list [.str "wide", .str "wide", .tuple [.str "number", .str "(1, 0)"]]
theorem l3 : b_118_3 [some z0, spot, tin, some (.d fullP), none, some (.d wideP)] ⟨[], sto⟩ = some (.nx, [some z0, spot, tin, some (.d fullP), some (.d (.list [.str "wide"])), some (.d wideP)], ⟨[4], sto⟩) := by kernel_rfl
theorem l4 : b_118_4 [some z0, spot, tin, some (.d fullP), some (.d (.list [.str "wide"])), some (.d wideP)] ⟨[4], sto⟩ = some (.nx, [some z0, spot, tin, some (.d fullP), some (.d (.list [.str "wide", .str "wide"])), some (.d wideP)], ⟨[4], sto⟩) := by kernel_rfl
theorem l5 : b_118_5 [some z0, spot, tin, some (.d fullP), some (.d (.list [.str "wide", .str "wide"])), some (.d wideP)] ⟨[4], sto⟩ = some (.nx, [some z0, spot, tin, some (.d fullP), some (.d toldL), some (.d wideP)], ⟨[4], sto⟩) := by kernel_rfl
theorem l6 : b_118_6 [some z0, spot, tin, some (.d fullP), some (.d toldL), some (.d wideP)] ⟨[4], sto⟩ = some (.rt (.d (.bool true)) false, [some z0, spot, tin, some (.d fullP), some (.d toldL), some (.d wideP)], ⟨[4], sto⟩) := by kernel_rfl
end
/-- the law: whatever the script -/
theorem law_ok {ns : List Int} (h : ns.length ≤ 63) : ∃ sto', F_law [.z ns] [] = some ((.d (.bool true), false), sto') := by
  obtain ⟨spot, tin, sto', e0⟩ := l0 h
  refine ⟨sto', ?_⟩
  unfold F_law bodyFn
  rw [if_pos (show [SV.z ns].length = 1 from rfl)]
  have run : b_118 ([SV.z ns].map some ++ List.replicate (N_118.length - 1) none) ⟨[], []⟩ = some (.rt (.d (.bool true)) false, [some (.z ns), spot, tin, some (.d fullP), some (.d toldL), some (.d wideP)], ⟨[4], sto'⟩) := by
    have e1 : [SV.z ns].map some ++ List.replicate (N_118.length - 1) none = [some (.z ns), none, none, none, none, none] := rfl
    rw [e1]
    unfold b_118
    rw [seq_nx e0, seq_nx l1, seq_nx l2, seq_nx l3, seq_nx l4, seq_nx l5, seq_rt l6]
  rw [run]
end k04
set_option maxHeartbeats 0
namespace k04
open PySem PySem.Spec L2 PI
def ini_12 : Stmt := match top 12 with
  | .ClassDef _ _ _ b _ _ _ _ _ _ _ => b.getD 0 (.Pass ⟨0, 0, 0, 0⟩)
  | _ => .Pass ⟨0, 0, 0, 0⟩
def ini_13 : Stmt := match top 13 with
  | .ClassDef _ _ _ b _ _ _ _ _ _ _ => b.getD 0 (.Pass ⟨0, 0, 0, 0⟩)
  | _ => .Pass ⟨0, 0, 0, 0⟩
def D_is_whole_codes : He.DefD := ⟨("is_whole_codes", none), "is_whole", "is_whole", defArgs s_31, defBody s_31, defScope s_31, [], []⟩
def D_is_between : He.DefD := ⟨("is_between", none), "is_between", "is_between", defArgs s_33, defBody s_33, defScope s_33, [], []⟩
def D_is_span : He.DefD := ⟨("is_span", none), "is_span", "is_span", defArgs s_34, defBody s_34, defScope s_34, [], []⟩
def D_limits_of : He.DefD := ⟨("limits_of", none), "limits_of", "limits_of", defArgs s_35, defBody s_35, defScope s_35, [], []⟩
def D_is_part : He.DefD := ⟨("is_part", none), "is_part", "is_part", defArgs s_36, defBody s_36, defScope s_36, [], []⟩
def D_is_row_within_codes : He.DefD := ⟨("is_row_within_codes", none), "is_row_within", "is_row_within", defArgs s_37, defBody s_37, defScope s_37, [], []⟩
def D_loops_by : He.DefD := ⟨("loops_by", none), "loops_by", "loops_by", defArgs s_39, defBody s_39, defScope s_39, [], []⟩
def D_around_by : He.DefD := ⟨("around_by", none), "around_by", "around_by", defArgs s_40, defBody s_40, defScope s_40, [], []⟩
def D_is_apart : He.DefD := ⟨("is_apart", none), "is_apart", "is_apart", defArgs s_41, defBody s_41, defScope s_41, [], []⟩
def D_are_loops : He.DefD := ⟨("are_loops", none), "are_loops", "are_loops", defArgs s_42, defBody s_42, defScope s_42, [], []⟩
def D_are_jumps : He.DefD := ⟨("are_jumps", none), "are_jumps", "are_jumps", defArgs s_43, defBody s_43, defScope s_43, [], []⟩
def D_are_rows : He.DefD := ⟨("are_rows", none), "are_rows", "are_rows", defArgs s_44, defBody s_44, defScope s_44, [], []⟩
def D_is_code : He.DefD := ⟨("is_code", none), "is_code", "is_code", defArgs s_45, defBody s_45, defScope s_45, [], []⟩
def D_need_code : He.DefD := ⟨("need_code", none), "need_code", "need_code", defArgs s_46, defBody s_46, defScope s_46, [], []⟩
def D_need_row : He.DefD := ⟨("need_row", none), "need_row", "need_row", defArgs s_47, defBody s_47, defScope s_47, [], []⟩
def D_ways_by : He.DefD := ⟨("ways_by", none), "ways_by", "ways_by", defArgs s_48, defBody s_48, defScope s_48, [], []⟩
def D_gives_by : He.DefD := ⟨("gives_by", none), "gives_by", "gives_by", defArgs s_49, defBody s_49, defScope s_49, [], []⟩
def D_is_whole_terms : He.DefD := ⟨("is_whole_terms", none), "is_whole", "is_whole", defArgs s_58, defBody s_58, defScope s_58, [], [("least", .int 0)]⟩
def D_is_worth : He.DefD := ⟨("is_worth", none), "is_worth", "is_worth", defArgs s_60, defBody s_60, defScope s_60, [], []⟩
def D_is_op : He.DefD := ⟨("is_op", none), "is_op", "is_op", defArgs s_61, defBody s_61, defScope s_61, [], []⟩
def D_is_row_within_plain : He.DefD := ⟨("is_row_within_plain", none), "is_row_within", "is_row_within", defArgs s_63, defBody s_63, defScope s_63, [], []⟩
def D_need_few : He.DefD := ⟨("need_few", none), "need_few", "need_few", defArgs s_67, defBody s_67, defScope s_67, [], []⟩
def D_joined_span : He.DefD := ⟨("joined_span", none), "joined_span", "joined_span", defArgs s_83, defBody s_83, defScope s_83, [], []⟩
def D_does_lie : He.DefD := ⟨("does_lie", none), "does_lie", "does_lie", defArgs s_84, defBody s_84, defScope s_84, [], []⟩
def D_begin_standing : He.DefD := ⟨("begin_standing", none), "begin_standing", "begin_standing", defArgs s_87, defBody s_87, defScope s_87, [], []⟩
def D_with_span : He.DefD := ⟨("with_span", none), "with_span", "with_span", defArgs s_88, defBody s_88, defScope s_88, [], []⟩
def D_span_given : He.DefD := ⟨("span_given", none), "span_given", "span_given", defArgs s_89, defBody s_89, defScope s_89, [], []⟩
def D_standing_behind : He.DefD := ⟨("standing_behind", none), "standing_behind", "standing_behind", defArgs s_90, defBody s_90, defScope s_90, [], []⟩
def D_led_standings : He.DefD := ⟨("led_standings", none), "led_standings", "led_standings", defArgs s_91, defBody s_91, defScope s_91, [], []⟩
def D_joined_standing : He.DefD := ⟨("joined_standing", none), "joined_standing", "joined_standing", defArgs s_92, defBody s_92, defScope s_92, [], []⟩
def D_lies_within : He.DefD := ⟨("lies_within", none), "lies_within", "lies_within", defArgs s_93, defBody s_93, defScope s_93, [], []⟩
def D_least_sheet : He.DefD := ⟨("least_sheet", none), "least_sheet", "least_sheet", defArgs s_94, defBody s_94, defScope s_94, [], []⟩
def D_does_hold : He.DefD := ⟨("does_hold", none), "does_hold", "does_hold", defArgs s_95, defBody s_95, defScope s_95, [], []⟩
def D_is_kept_by : He.DefD := ⟨("is_kept_by", none), "is_kept_by", "is_kept_by", defArgs s_97, defBody s_97, defScope s_97, [], []⟩
def D_is_span_of : He.DefD := ⟨("is_span_of", none), "is_span_of", "is_span_of", defArgs s_100, defBody s_100, defScope s_100, [], []⟩
def D_are_spans : He.DefD := ⟨("are_spans", none), "are_spans", "are_spans", defArgs s_101, defBody s_101, defScope s_101, [], []⟩
def D_is_standing : He.DefD := ⟨("is_standing", none), "is_standing", "is_standing", defArgs s_102, defBody s_102, defScope s_102, [], []⟩
def D_is_sheet_of_spans : He.DefD := ⟨("is_sheet_of_spans", none), "is_sheet_of_spans", "is_sheet_of_spans", defArgs s_103, defBody s_103, defScope s_103, [], []⟩
def D_need_span : He.DefD := ⟨("need_span", none), "need_span", "need_span", defArgs s_104, defBody s_104, defScope s_104, [], []⟩
def D_need_claim : He.DefD := ⟨("need_claim", none), "need_claim", "need_claim", defArgs s_105, defBody s_105, defScope s_105, [], []⟩
def D_span_sheet : He.DefD := ⟨("span_sheet", none), "span_sheet", "span_sheet", defArgs s_106, defBody s_106, defScope s_106, [], []⟩
def D_is_span_sheet : He.DefD := ⟨("is_span_sheet", none), "is_span_sheet", "is_span_sheet", defArgs s_107, defBody s_107, defScope s_107, [], []⟩
def D_span_made : He.DefD := ⟨("span_made", none), "span_made", "span_made", defArgs s_108, defBody s_108, defScope s_108, [], []⟩
def D_narrowed : He.DefD := ⟨("narrowed", none), "narrowed", "narrowed", defArgs s_109, defBody s_109, defScope s_109, [], []⟩
def D_claim_paper : He.DefD := ⟨("claim_paper", none), "claim_paper", "claim_paper", defArgs s_110, defBody s_110, defScope s_110, [], []⟩
def D_shows_claim : He.DefD := ⟨("shows_claim", none), "shows_claim", "shows_claim", defArgs s_111, defBody s_111, defScope s_111, [], []⟩
def D__law_tin : He.DefD := ⟨("_law_tin", none), "_law_tin", "_law_tin", defArgs s_113, defBody s_113, defScope s_113, [], []⟩
def D__law_dealt : He.DefD := ⟨("_law_dealt", none), "_law_dealt", "_law_dealt", defArgs s_114, defBody s_114, defScope s_114, [], []⟩
def D__law_picked : He.DefD := ⟨("_law_picked", none), "_law_picked", "_law_picked", defArgs s_115, defBody s_115, defScope s_115, [], []⟩
def D__law_right : He.DefD := ⟨("_law_right", none), "_law_right", "_law_right", defArgs s_117, defBody s_117, defScope s_117, [], []⟩
def D__law_met : He.DefD := ⟨("_law_met", none), "_law_met", "_law_met", defArgs s_116, defBody s_116, defScope s_116, [], []⟩
def D_law : He.DefD := ⟨("law", none), "law", "law", defArgs s_118, defBody s_118, defScope s_118, [], []⟩
def D_iNoRow : He.DefD := ⟨("NoRow", some "__init__"), "__init__", "NoRow.__init__", defArgs ini_12, defBody ini_12, defScope ini_12, [], []⟩
def D_iNoNumber : He.DefD := ⟨("NoNumber", some "__init__"), "__init__", "NoNumber.__init__", defArgs ini_13, defBody ini_13, defScope ini_13, [], []⟩
def fnL : List He.DefD := [D_is_whole_codes, D_is_between, D_is_span, D_limits_of, D_is_part, D_is_row_within_codes, D_loops_by, D_around_by, D_is_apart, D_are_loops, D_are_jumps, D_are_rows, D_is_code, D_need_code, D_need_row, D_ways_by, D_gives_by, D_is_whole_terms, D_is_worth, D_is_op, D_is_row_within_plain, D_need_few, D_joined_span, D_does_lie, D_begin_standing, D_with_span, D_span_given, D_standing_behind, D_led_standings, D_joined_standing, D_lies_within, D_least_sheet, D_does_hold, D_is_kept_by, D_is_span_of, D_are_spans, D_is_standing, D_is_sheet_of_spans, D_need_span, D_need_claim, D_span_sheet, D_is_span_sheet, D_span_made, D_narrowed, D_claim_paper, D_shows_claim, D__law_tin, D__law_dealt, D__law_picked, D__law_right, D__law_met, D_law, D_iNoRow, D_iNoNumber]
def faL : List He.Fa := [.free "abs", .free "all", .free "bool", .free "enumerate", .free "int", .free "isinstance", .free "len", .free "max", .free "min", .free "range", .free "repr", .free "sorted", .free "str", .free "tuple", .free "zip", .glo "is_whole_codes", .glo "is_between", .glo "is_span", .glo "limits_of", .glo "is_part", .glo "is_row_within_codes", .glo "loops_by", .glo "around_by", .glo "is_apart", .glo "are_loops", .glo "are_jumps", .glo "are_rows", .glo "is_code", .glo "need_code", .glo "need_row", .glo "ways_by", .glo "gives_by", .glo "is_whole_terms", .glo "is_worth", .glo "is_op", .glo "is_row_within_plain", .glo "need_few", .glo "joined_span", .glo "does_lie", .glo "begin_standing", .glo "with_span", .glo "span_given", .glo "standing_behind", .glo "led_standings", .glo "joined_standing", .glo "lies_within", .glo "least_sheet", .glo "does_hold", .glo "is_kept_by", .glo "is_span_of", .glo "are_spans", .glo "is_standing", .glo "is_sheet_of_spans", .glo "need_span", .glo "need_claim", .glo "span_sheet", .glo "is_span_sheet", .glo "span_made", .glo "narrowed", .glo "claim_paper", .glo "shows_claim", .glo "_law_tin", .glo "_law_dealt", .glo "_law_picked", .glo "_law_right", .glo "_law_met", .glo "law", .int "MOST_WORTH_codes" (255), .str "REGISTER" "register", .str "ROUNDS" "rounds", .str "ARRAY" "array", .str "ROW" "row", .str "WORTH" "worth", .int "MOST_ROUNDS" (6), .glo "FORMS", .int "DEEPEST" (2), .glo "JUMPS", .int "MOST_ROWS" (60), .int "MOST_MANY" (16), .int "MOST_SIZE" (6), .int "MOST_ASKS" (3), .glo "WITHOUT", .int "WORTHS" (256), .glo "OPS", .int "INPUTS" (400), .glo "NOUGHT", .str "LEFT" "left", .str "KEPT" "kept", .str "UNSURE" "unsure", .glo "NoCode", .glo "TooWide", .glo "NoRow", .glo "NoNumber", .glo "WalkError", .glo "NoSystem", .glo "NoSpot", .glo "NoChoice", .glo "NoPlan", .glo "NoWalk", .glo "NoMost", .glo "NoInput", .exc "NoCode", .exc "TooWide", .exm "NoCode" "NoCode" true, .exm "NoNumber" "NoCode" false, .exm "NoNumber" "NoNumber" true, .exm "NoRow" "NoCode" false, .exm "NoRow" "NoNumber" false, .exm "NoRow" "NoRow" true, .exm "TooWide" "NoCode" false, .exm "TooWide" "NoNumber" false, .exm "TooWide" "NoRow" false, .exm "TooWide" "TooWide" true, .noat "NoRow" "number", .noat "NoNumber" "number"]
def tsL : List He.Tab := [(fun K => He.ga K "FORMS", ["set", "copy", "+", "-", "*", "<", "=", "get", "put", "test", "go", "count", "again", "rest", "end"]), (fun K => He.ga K "OPS", ["+", "-", "*", "<", "="])]
def tfL : List He.Defn := [("_law_right", none), ("law", none)]
def exs (K : PySem.W.Frag) : List Bool := [tblB K (He.ga K "FORMS") T_FORMS, conB K "JUMPS" P_JUMPS, conB K "WITHOUT" P_WITHOUT, tblB K (He.ga K "OPS") T_OPS, conB K "NOUGHT" P_NOUGHT, looB K (He.ga K "NoRow") (He.ga K "WalkError"), He.eqO (PySem.W.findIn K (.ref (He.ga K "NoRow")) "__init__") (some (some (.ref (He.ma K (He.ga K "NoRow") "__init__")))), decide (PySem.W.typeIn K (.ref (He.ma K (He.ga K "NoRow") "__init__")) = some (.type "function")), xfB K (He.ga K "NoRow"), looB K (He.ga K "NoNumber") (He.ga K "WalkError"), He.eqO (PySem.W.findIn K (.ref (He.ga K "NoNumber")) "__init__") (some (some (.ref (He.ma K (He.ga K "NoNumber") "__init__")))), decide (PySem.W.typeIn K (.ref (He.ma K (He.ga K "NoNumber") "__init__")) = some (.type "function")), xfB K (He.ga K "NoNumber"), basB K (He.ga K "WalkError"), decide (He.tabOf K (He.codeOf K ("_law_right", none)) = 645), decide (He.tabOf K (He.codeOf K ("law", none)) = 652)]
def exL (K : PySem.W.Frag) : Bool := (exs K).all id
theorem ex_at {K : PySem.W.Frag} (h : exL K = true) (i : Nat) {b : Bool} (e : (exs K)[i]? = some b) : b = true := List.all_eq_true.mp h _ (List.mem_of_getElem? e)
def asL : List Addr := [3, 2, 6, 4, 24, 37, 49, 61, 73, 85, 97, 109, 121, 133, 153, 172, 191, 194, 195, 206, 207, 354, 214, 221, 226, 233, 240, 373, 245, 250, 255, 262, 267, 272, 277, 282, 289, 296, 303, 310, 317, 324, 331, 338, 345, 346, 361, 368, 380, 385, 392, 399, 406, 413, 418, 419, 420, 421, 428, 435, 442, 449, 456, 461, 468, 475, 482, 487, 492, 497, 502, 509, 516, 523, 530, 537, 542, 547, 554, 559, 566, 573, 580, 587, 594, 601, 608, 615, 622, 629, 636, 643, 650, 657, 23, 36, 48, 60, 72, 84, 96, 108, 120, 132, 152, 171, 190, 196, 197, 198, 199, 200, 201, 202, 203, 204, 205, 353, 347, 213, 220, 225, 232, 239, 372, 244, 249, 254, 261, 266, 271, 276, 281, 288, 295, 302, 309, 316, 323, 330, 337, 344, 360, 367, 379, 384, 391, 398, 405, 412, 417, 427, 434, 441, 448, 455, 460, 467, 474, 481, 486, 491, 496, 501, 508, 515, 522, 529, 536, 541, 546, 553, 558, 565, 572, 579, 586, 593, 600, 607, 614, 621, 628, 635, 642, 649, 656, 22, 25, 35, 47, 59, 71, 83, 95, 107, 119, 131, 134, 150, 151, 169, 170, 188, 189, 149, 168, 187]
def loose0 : List PySem.Str := ["PaceError", "NoInput", "NoCode", "NoSpot", "NoChoice", "NoMost", "TooWide", "NoSystem", "NoPlan", "WalkError", "NoWalk", "NoRow", "NoNumber", "MOST_ASKS", "MOST_MANY", "MOST_SIZE", "MOST_ROWS", "MOST_ROUNDS", "MOST_WORTH_codes", "DEEPEST"]
def loose1 : List PySem.Str := ["REGISTER", "WORTH", "ARRAY", "ROW", "ROUNDS", "THREE", "FORMS", "JUMPS", "WITHOUT", "is_whole", "is_whole_codes", "is_between", "is_span", "limits_of", "is_part", "is_row_within", "is_row_within_codes", "loops_by", "around_by", "is_apart"]
def loose2 : List PySem.Str := ["are_loops", "are_jumps", "are_rows", "is_code", "need_code", "need_row", "ways_by", "gives_by", "WORTHS", "plus", "minus", "times", "is_less", "are_equal", "OPS", "is_whole_terms", "is_worth", "is_op", "is_row_within_plain", "INPUTS"]
def loose3 : List PySem.Str := ["need_few", "inputs_by", "put_at", "cell_of", "behind_by", "gone_on", "stands_by", "MOST_WORTH_spans", "NOUGHT", "TRUTH", "ANYTHING", "KEPT", "LEFT", "UNSURE", "is_single", "joined_span", "does_lie", "compared_span", "made_span", "begin_standing"]
def loose4 : List PySem.Str := ["with_span", "span_given", "standing_behind", "led_standings", "joined_standing", "lies_within", "least_sheet", "does_hold", "narrowed_row", "is_kept_by", "does_leave", "first_leaving", "is_span_of", "are_spans", "is_standing", "is_sheet_of_spans", "need_span", "need_claim", "span_sheet", "is_span_sheet"]
def loose5 : List PySem.Str := ["span_made", "narrowed", "claim_paper", "shows_claim", "_law_tin", "_law_dealt", "_law_picked", "_law_met", "_law_right"]
def loose : List PySem.Str := loose0 ++ loose1 ++ loose2 ++ loose3 ++ loose4 ++ loose5
abbrev R : PySem.W.OpenRow := PySem.W.OpenLaw.row PySem.Challenge.rw_pacewide_k04_refusals_of_spans
abbrev hk : PySem.W.Hook := hookL asL faL fnL tsL tfL exL
def ob (s : PySem.W.SharedT) : He.AlX := obsL asL faL fnL tsL tfL exL (HandSHeadRun.getT s)
theorem ob_eq (s : PySem.W.SharedT) : ob s = hk.obs s.abs := obsL_eq (HandSHeadRun.getT_eq s)
end k04
set_option maxHeartbeats 4000000
namespace k04
open PySem PySem.Spec L2 PI
theorem fsi_12 : FnScope ["self", "number"] ["self", "number"] (defScope ini_12) := ⟨rfl, rfl, rfl, by decide +kernel, rfl, by decide +kernel, by decide +kernel⟩
theorem fsi_13 : FnScope ["self", "number"] ["self", "number"] (defScope ini_13) := ⟨rfl, rfl, rfl, by decide +kernel, rfl, by decide +kernel, by decide +kernel⟩
theorem md_of_says {w : World} {K : PySem.W.Frag} {h0 h base : Heap} {mg : Str → Option Value} (X : K.In h) (N : h.Ns mainGlobals mg) (c : He.SaysX faL fnL tsL tfL exL w h0 K) (tb0 : LamX.TabB base mg (He.codeOf K ("_law_right", none)) 645) (tb1 : LamX.TabB base mg (He.codeOf K ("law", none)) 652) : Md PySem.Challenge.rw_pacewide_k04_refusals_of_spans.prog w K mg base := by
  obtain ⟨fd_NoRow, F_NoRow⟩ := c.t.d.def_ 52 (d := D_iNoRow) rfl
  have ini_NoRow : ∃ fd ps, FnOk PySem.Challenge.rw_pacewide_k04_refusals_of_spans.prog w K mg base (fun _ _ _ _ _ _ => False) 1 (He.ma K (He.ga K "NoRow") "__init__") fd ps (spIni K "number") ∧ Binds K fd ps [] :=
    ⟨fd_NoRow, ["self", "number"], ini_ok (ob := He.ga K "WalkError") F_NoRow fsi_12 (by decide +kernel) (He.glo_ok X N (c.t.d.fact 93 rfl)) (basB_ok (ex_at c.more 13 rfl)) rfl, F_NoRow.bindsN fun _ _ _ _ _ _ us hl => match us, hl with | [_, _], _ => rfl⟩
  obtain ⟨fd_NoNumber, F_NoNumber⟩ := c.t.d.def_ 53 (d := D_iNoNumber) rfl
  have ini_NoNumber : ∃ fd ps, FnOk PySem.Challenge.rw_pacewide_k04_refusals_of_spans.prog w K mg base (fun _ _ _ _ _ _ => False) 1 (He.ma K (He.ga K "NoNumber") "__init__") fd ps (spIni K "number") ∧ Binds K fd ps [] :=
    ⟨fd_NoNumber, ["self", "number"], ini_ok (ob := He.ga K "WalkError") F_NoNumber fsi_13 (by decide +kernel) (He.glo_ok X N (c.t.d.fact 93 rfl)) (basB_ok (ex_at c.more 13 rfl)) rfl, F_NoNumber.bindsN fun _ _ _ _ _ _ us hl => match us, hl with | [_, _], _ => rfl⟩
  exact {
    f_abs := He.free_ok X N (c.t.d.fact 0 rfl)
    f_all := He.free_ok X N (c.t.d.fact 1 rfl)
    f_bool := He.free_ok X N (c.t.d.fact 2 rfl)
    f_enumerate := He.free_ok X N (c.t.d.fact 3 rfl)
    f_int := He.free_ok X N (c.t.d.fact 4 rfl)
    f_isinstance := He.free_ok X N (c.t.d.fact 5 rfl)
    f_len := He.free_ok X N (c.t.d.fact 6 rfl)
    f_max := He.free_ok X N (c.t.d.fact 7 rfl)
    f_min := He.free_ok X N (c.t.d.fact 8 rfl)
    f_range := He.free_ok X N (c.t.d.fact 9 rfl)
    f_repr := He.free_ok X N (c.t.d.fact 10 rfl)
    f_sorted := He.free_ok X N (c.t.d.fact 11 rfl)
    f_str := He.free_ok X N (c.t.d.fact 12 rfl)
    f_tuple := He.free_ok X N (c.t.d.fact 13 rfl)
    f_zip := He.free_ok X N (c.t.d.fact 14 rfl)
    c_MOST_WORTH_codes := let ⟨t, e⟩ := He.int_ok X N (c.t.d.fact 67 rfl); ⟨_, e, ⟨t, rfl⟩⟩
    c_REGISTER := let ⟨t, e⟩ := He.str_ok X N (c.t.d.fact 68 rfl); ⟨_, e, ⟨t, rfl⟩⟩
    c_ROUNDS := let ⟨t, e⟩ := He.str_ok X N (c.t.d.fact 69 rfl); ⟨_, e, ⟨t, rfl⟩⟩
    c_ARRAY := let ⟨t, e⟩ := He.str_ok X N (c.t.d.fact 70 rfl); ⟨_, e, ⟨t, rfl⟩⟩
    c_ROW := let ⟨t, e⟩ := He.str_ok X N (c.t.d.fact 71 rfl); ⟨_, e, ⟨t, rfl⟩⟩
    c_WORTH := let ⟨t, e⟩ := He.str_ok X N (c.t.d.fact 72 rfl); ⟨_, e, ⟨t, rfl⟩⟩
    c_MOST_ROUNDS := let ⟨t, e⟩ := He.int_ok X N (c.t.d.fact 73 rfl); ⟨_, e, ⟨t, rfl⟩⟩
    c_FORMS := ⟨_, He.glo_ok X N (c.t.d.fact 74 rfl), rfl⟩
    t_FORMS := ktab_of rfl X N (c.t.tab 0 rfl) (ex_at c.more 0 rfl)
    c_DEEPEST := let ⟨t, e⟩ := He.int_ok X N (c.t.d.fact 75 rfl); ⟨_, e, ⟨t, rfl⟩⟩
    c_JUMPS := ⟨_, He.glo_ok X N (c.t.d.fact 76 rfl), rfl⟩
    r_JUMPS := fun H O => conB_ok (ex_at c.more 1 rfl) _ rfl H O
    c_MOST_ROWS := let ⟨t, e⟩ := He.int_ok X N (c.t.d.fact 77 rfl); ⟨_, e, ⟨t, rfl⟩⟩
    c_MOST_MANY := let ⟨t, e⟩ := He.int_ok X N (c.t.d.fact 78 rfl); ⟨_, e, ⟨t, rfl⟩⟩
    c_MOST_SIZE := let ⟨t, e⟩ := He.int_ok X N (c.t.d.fact 79 rfl); ⟨_, e, ⟨t, rfl⟩⟩
    c_MOST_ASKS := let ⟨t, e⟩ := He.int_ok X N (c.t.d.fact 80 rfl); ⟨_, e, ⟨t, rfl⟩⟩
    c_WITHOUT := ⟨_, He.glo_ok X N (c.t.d.fact 81 rfl), rfl⟩
    r_WITHOUT := fun H O => conB_ok (ex_at c.more 2 rfl) _ rfl H O
    c_WORTHS := let ⟨t, e⟩ := He.int_ok X N (c.t.d.fact 82 rfl); ⟨_, e, ⟨t, rfl⟩⟩
    c_OPS := ⟨_, He.glo_ok X N (c.t.d.fact 83 rfl), rfl⟩
    t_OPS := ktab_of rfl X N (c.t.tab 1 rfl) (ex_at c.more 3 rfl)
    c_INPUTS := let ⟨t, e⟩ := He.int_ok X N (c.t.d.fact 84 rfl); ⟨_, e, ⟨t, rfl⟩⟩
    c_NOUGHT := ⟨_, He.glo_ok X N (c.t.d.fact 85 rfl), rfl⟩
    r_NOUGHT := fun H O => conB_ok (ex_at c.more 4 rfl) _ rfl H O
    c_LEFT := let ⟨t, e⟩ := He.str_ok X N (c.t.d.fact 86 rfl); ⟨_, e, ⟨t, rfl⟩⟩
    c_KEPT := let ⟨t, e⟩ := He.str_ok X N (c.t.d.fact 87 rfl); ⟨_, e, ⟨t, rfl⟩⟩
    c_UNSURE := let ⟨t, e⟩ := He.str_ok X N (c.t.d.fact 88 rfl); ⟨_, e, ⟨t, rfl⟩⟩
    d_is_whole_codes := ⟨He.glo_ok X N (c.t.d.fact 15 rfl), c.t.d.def_ 0 (d := D_is_whole_codes) rfl⟩
    d_is_between := ⟨He.glo_ok X N (c.t.d.fact 16 rfl), c.t.d.def_ 1 (d := D_is_between) rfl⟩
    d_is_span := ⟨He.glo_ok X N (c.t.d.fact 17 rfl), c.t.d.def_ 2 (d := D_is_span) rfl⟩
    d_limits_of := ⟨He.glo_ok X N (c.t.d.fact 18 rfl), c.t.d.def_ 3 (d := D_limits_of) rfl⟩
    d_is_part := ⟨He.glo_ok X N (c.t.d.fact 19 rfl), c.t.d.def_ 4 (d := D_is_part) rfl⟩
    d_is_row_within_codes := ⟨He.glo_ok X N (c.t.d.fact 20 rfl), c.t.d.def_ 5 (d := D_is_row_within_codes) rfl⟩
    d_loops_by := ⟨He.glo_ok X N (c.t.d.fact 21 rfl), c.t.d.def_ 6 (d := D_loops_by) rfl⟩
    d_around_by := ⟨He.glo_ok X N (c.t.d.fact 22 rfl), c.t.d.def_ 7 (d := D_around_by) rfl⟩
    d_is_apart := ⟨He.glo_ok X N (c.t.d.fact 23 rfl), c.t.d.def_ 8 (d := D_is_apart) rfl⟩
    d_are_loops := ⟨He.glo_ok X N (c.t.d.fact 24 rfl), c.t.d.def_ 9 (d := D_are_loops) rfl⟩
    d_are_jumps := ⟨He.glo_ok X N (c.t.d.fact 25 rfl), c.t.d.def_ 10 (d := D_are_jumps) rfl⟩
    d_are_rows := ⟨He.glo_ok X N (c.t.d.fact 26 rfl), c.t.d.def_ 11 (d := D_are_rows) rfl⟩
    d_is_code := ⟨He.glo_ok X N (c.t.d.fact 27 rfl), c.t.d.def_ 12 (d := D_is_code) rfl⟩
    d_need_code := ⟨He.glo_ok X N (c.t.d.fact 28 rfl), c.t.d.def_ 13 (d := D_need_code) rfl⟩
    d_need_row := ⟨He.glo_ok X N (c.t.d.fact 29 rfl), c.t.d.def_ 14 (d := D_need_row) rfl⟩
    d_ways_by := ⟨He.glo_ok X N (c.t.d.fact 30 rfl), c.t.d.def_ 15 (d := D_ways_by) rfl⟩
    d_gives_by := ⟨He.glo_ok X N (c.t.d.fact 31 rfl), c.t.d.def_ 16 (d := D_gives_by) rfl⟩
    d_is_whole_terms := ⟨He.glo_ok X N (c.t.d.fact 32 rfl), c.t.d.def_ 17 (d := D_is_whole_terms) rfl⟩
    d_is_worth := ⟨He.glo_ok X N (c.t.d.fact 33 rfl), c.t.d.def_ 18 (d := D_is_worth) rfl⟩
    d_is_op := ⟨He.glo_ok X N (c.t.d.fact 34 rfl), c.t.d.def_ 19 (d := D_is_op) rfl⟩
    d_is_row_within_plain := ⟨He.glo_ok X N (c.t.d.fact 35 rfl), c.t.d.def_ 20 (d := D_is_row_within_plain) rfl⟩
    d_need_few := ⟨He.glo_ok X N (c.t.d.fact 36 rfl), c.t.d.def_ 21 (d := D_need_few) rfl⟩
    d_joined_span := ⟨He.glo_ok X N (c.t.d.fact 37 rfl), c.t.d.def_ 22 (d := D_joined_span) rfl⟩
    d_does_lie := ⟨He.glo_ok X N (c.t.d.fact 38 rfl), c.t.d.def_ 23 (d := D_does_lie) rfl⟩
    d_begin_standing := ⟨He.glo_ok X N (c.t.d.fact 39 rfl), c.t.d.def_ 24 (d := D_begin_standing) rfl⟩
    d_with_span := ⟨He.glo_ok X N (c.t.d.fact 40 rfl), c.t.d.def_ 25 (d := D_with_span) rfl⟩
    d_span_given := ⟨He.glo_ok X N (c.t.d.fact 41 rfl), c.t.d.def_ 26 (d := D_span_given) rfl⟩
    d_standing_behind := ⟨He.glo_ok X N (c.t.d.fact 42 rfl), c.t.d.def_ 27 (d := D_standing_behind) rfl⟩
    d_led_standings := ⟨He.glo_ok X N (c.t.d.fact 43 rfl), c.t.d.def_ 28 (d := D_led_standings) rfl⟩
    d_joined_standing := ⟨He.glo_ok X N (c.t.d.fact 44 rfl), c.t.d.def_ 29 (d := D_joined_standing) rfl⟩
    d_lies_within := ⟨He.glo_ok X N (c.t.d.fact 45 rfl), c.t.d.def_ 30 (d := D_lies_within) rfl⟩
    d_least_sheet := ⟨He.glo_ok X N (c.t.d.fact 46 rfl), c.t.d.def_ 31 (d := D_least_sheet) rfl⟩
    d_does_hold := ⟨He.glo_ok X N (c.t.d.fact 47 rfl), c.t.d.def_ 32 (d := D_does_hold) rfl⟩
    d_is_kept_by := ⟨He.glo_ok X N (c.t.d.fact 48 rfl), c.t.d.def_ 33 (d := D_is_kept_by) rfl⟩
    d_is_span_of := ⟨He.glo_ok X N (c.t.d.fact 49 rfl), c.t.d.def_ 34 (d := D_is_span_of) rfl⟩
    d_are_spans := ⟨He.glo_ok X N (c.t.d.fact 50 rfl), c.t.d.def_ 35 (d := D_are_spans) rfl⟩
    d_is_standing := ⟨He.glo_ok X N (c.t.d.fact 51 rfl), c.t.d.def_ 36 (d := D_is_standing) rfl⟩
    d_is_sheet_of_spans := ⟨He.glo_ok X N (c.t.d.fact 52 rfl), c.t.d.def_ 37 (d := D_is_sheet_of_spans) rfl⟩
    d_need_span := ⟨He.glo_ok X N (c.t.d.fact 53 rfl), c.t.d.def_ 38 (d := D_need_span) rfl⟩
    d_need_claim := ⟨He.glo_ok X N (c.t.d.fact 54 rfl), c.t.d.def_ 39 (d := D_need_claim) rfl⟩
    d_span_sheet := ⟨He.glo_ok X N (c.t.d.fact 55 rfl), c.t.d.def_ 40 (d := D_span_sheet) rfl⟩
    d_is_span_sheet := ⟨He.glo_ok X N (c.t.d.fact 56 rfl), c.t.d.def_ 41 (d := D_is_span_sheet) rfl⟩
    d_span_made := ⟨He.glo_ok X N (c.t.d.fact 57 rfl), c.t.d.def_ 42 (d := D_span_made) rfl⟩
    d_narrowed := ⟨He.glo_ok X N (c.t.d.fact 58 rfl), c.t.d.def_ 43 (d := D_narrowed) rfl⟩
    d_claim_paper := ⟨He.glo_ok X N (c.t.d.fact 59 rfl), c.t.d.def_ 44 (d := D_claim_paper) rfl⟩
    d_shows_claim := ⟨He.glo_ok X N (c.t.d.fact 60 rfl), c.t.d.def_ 45 (d := D_shows_claim) rfl⟩
    d__law_tin := ⟨He.glo_ok X N (c.t.d.fact 61 rfl), c.t.d.def_ 46 (d := D__law_tin) rfl⟩
    d__law_dealt := ⟨He.glo_ok X N (c.t.d.fact 62 rfl), c.t.d.def_ 47 (d := D__law_dealt) rfl⟩
    d__law_picked := ⟨He.glo_ok X N (c.t.d.fact 63 rfl), c.t.d.def_ 48 (d := D__law_picked) rfl⟩
    d__law_right := ⟨He.glo_ok X N (c.t.d.fact 64 rfl), c.t.d.def_ 49 (d := D__law_right) rfl⟩
    d__law_met := ⟨He.glo_ok X N (c.t.d.fact 65 rfl), c.t.d.def_ 50 (d := D__law_met) rfl⟩
    d_law := ⟨He.glo_ok X N (c.t.d.fact 66 rfl), c.t.d.def_ 51 (d := D_law) rfl⟩
    e_NoCode := ⟨He.glo_ok X N (c.t.d.fact 89 rfl), (He.exc_ok (c.t.d.fact 101 rfl)).1, (He.exc_ok (c.t.d.fact 101 rfl)).2.1, (He.exc_ok (c.t.d.fact 101 rfl)).2.2.1, (He.exc_ok (c.t.d.fact 101 rfl)).2.2.2⟩
    e_TooWide := ⟨He.glo_ok X N (c.t.d.fact 90 rfl), (He.exc_ok (c.t.d.fact 102 rfl)).1, (He.exc_ok (c.t.d.fact 102 rfl)).2.1, (He.exc_ok (c.t.d.fact 102 rfl)).2.2.1, (He.exc_ok (c.t.d.fact 102 rfl)).2.2.2⟩
    x_NoRow := ⟨looB_ok (ex_at c.more 5 rfl), He.noat_ok (c.t.d.fact 113 rfl), He.eqO_ok (ex_at c.more 6 rfl), of_decide_eq_true (ex_at c.more 7 rfl), ini_NoRow, He.glo_ok X N (c.t.d.fact 91 rfl)⟩
    xf_NoRow := xfB_ok (ex_at c.more 8 rfl)
    x_NoNumber := ⟨looB_ok (ex_at c.more 9 rfl), He.noat_ok (c.t.d.fact 114 rfl), He.eqO_ok (ex_at c.more 10 rfl), of_decide_eq_true (ex_at c.more 11 rfl), ini_NoNumber, He.glo_ok X N (c.t.d.fact 92 rfl)⟩
    xf_NoNumber := xfB_ok (ex_at c.more 12 rfl)
    g_NoSystem := He.glo_ok X N (c.t.d.fact 94 rfl)
    g_NoSpot := He.glo_ok X N (c.t.d.fact 95 rfl)
    g_NoChoice := He.glo_ok X N (c.t.d.fact 96 rfl)
    g_NoPlan := He.glo_ok X N (c.t.d.fact 97 rfl)
    g_NoWalk := He.glo_ok X N (c.t.d.fact 98 rfl)
    g_NoMost := He.glo_ok X N (c.t.d.fact 99 rfl)
    g_NoInput := He.glo_ok X N (c.t.d.fact 100 rfl)
    ex_c_c := He.exm_ok (c.t.d.fact 103 rfl)
    ex_n_c := He.exm_ok (c.t.d.fact 104 rfl)
    ex_n_n := He.exm_ok (c.t.d.fact 105 rfl)
    ex_r_c := He.exm_ok (c.t.d.fact 106 rfl)
    ex_r_n := He.exm_ok (c.t.d.fact 107 rfl)
    ex_r_r := He.exm_ok (c.t.d.fact 108 rfl)
    ex_w_c := He.exm_ok (c.t.d.fact 109 rfl)
    ex_w_n := He.exm_ok (c.t.d.fact 110 rfl)
    ex_w_r := He.exm_ok (c.t.d.fact 111 rfl)
    ex_w_w := He.exm_ok (c.t.d.fact 112 rfl)
    tb_right := tb0
    tb_law := tb1
  }
end k04
set_option maxHeartbeats 0
namespace k04
open PySem PySem.Spec L2 PI
abbrev PR (w : World) : Prop := HandSHeadRun.RunEq R (PySem.W.view R.prog [118]) hk ob 6000 loose w
theorem hrunF (w : World) : PR (w.withFollow "special-get-raises" false) := by
  intro os
  kernel_rfl
theorem hrunT (w : World) : PR (w.withFollow "special-get-raises" true) := by
  intro os
  kernel_rfl
theorem hrun (w : World) : PR w := PySem.W.byRow2 "special-get-raises" (P := PR) hrunF hrunT w
end k04
set_option maxHeartbeats 8000000
namespace k04
open PySem PySem.Spec L2 PI
/-- the law's def, its function object given -/
theorem law_fn {Pr : Program} {w : World} {K : PySem.W.Frag} {mg : Str → Option Value} {base : Heap} {fd : FuncData} (m : Md Pr w K mg base) (F : FunD K "law" "law" (defArgs s_118) (defBody s_118) sc_118 [] [] (He.ga K "law") fd) : FnOkG Pr w K mg base 14 (He.ga K "law") fd ["script"] (spF ⟨K, Pr, w, mg⟩ 1 F_law) := by
  obtain ⟨oc, od, dV, kV, doc, pm, an, cdv, ct, osl, e, lk, hcd, _, _⟩ := F.ex
  subst e
  obtain ⟨c, rfl⟩ := He.codeIn_ref hcd
  have ec := He.codeOf_eq (p := ("law", none)) lk rfl
  exact fnG_of lk hcd fs_118 (fun vs H Q E q => by obtain ⟨_, _, _, _, _, _, _, q, _⟩ := q; exact q) fun A outer s H vs Q E hG hr q => ⟨_, body_118 _ hG (lamC_law m rfl rfl (by rw [ec]; rfl) rfl) (.of (.nox fs_118.nd rfl (kds_of_code hcd) hr) rfl rfl (fun _ => rfl) (by decide +kernel) (by decide +kernel)) rfl m, body_ok q⟩
theorem tabs_at {w : World} {h0 : Heap} {K : PySem.W.Frag} (c : He.SaysX faL fnL tsL tfL exL w h0 K) : tfL.map (He.cT K) = [(He.codeOf K ("_law_right", none), 645), (He.codeOf K ("law", none), 652)] := by
  have e1 : He.tabOf K (He.codeOf K ("_law_right", none)) = 645 := of_decide_eq_true (ex_at c.more 14 rfl)
  have e2 : He.tabOf K (He.codeOf K ("law", none)) = 652 := of_decide_eq_true (ex_at c.more 15 rfl)
  show [(He.codeOf K ("_law_right", none), He.tabOf K (He.codeOf K ("_law_right", none))), (He.codeOf K ("law", none), He.tabOf K (He.codeOf K ("law", none)))] = _
  rw [e1, e2]
theorem walk {q : Program} {loose : List Str} {XP : (Str → Option Value) → Heap → Prop} {d : DefRec} (hd : d.name = ("law" : Str)) (hdf : d.params.defaults = []) :
    PySem.W.WalkO q loose XP hk.says PySem.Challenge.rw_pacewide_k04_refusals_of_spans.row.toRowW d [] (fun f vs => PySem.call f vs) := by
  refine Att.attach_callB (l := PySem.Challenge.rw_pacewide_k04_refusals_of_spans) (n := 63) rfl hdf fun w s₀ s₁ mg mb fa o pm cd doc a vs ns G Y ho hd2 hcd hmg hobj hints hlen hbits hg => ?_
  obtain ⟨K, KX, c⟩ := Y
  rw [hd] at hmg
  have eg := He.glo_ok KX G.T.g (c.t.d.fact 66 rfl)
  rw [hmg] at eg
  cases eg
  obtain ⟨fd, F⟩ := c.t.d.def_ 51 (d := D_law) rfl
  have ts := tabs_at c
  have mem : ∀ p ∈ tfL.map (He.cT K), ∃ z ∈ tfL, He.cT K z = p := fun p hp => List.mem_map.mp hp
  refine end_run (K := K) (cs := tfL.map (He.cT K)) (fd := fd) (x := "script") (Fl := F_law) KX G.T.g G.T.b G.T.builtins G.T.nolimit hg (fun p hp => ?_) (fun p hp => ?_) (fun p hp => ?_) G.T.bmain hobj hints (Nat.le_trans hlen (by decide +kernel)) (⟨rfl, by decide, by decide⟩ : Room 14 callerA) (fun base inB nsB tb => law_fn (md_of_says inB nsB c (tb (He.codeOf K ("_law_right", none), 645) ?_) (tb (He.codeOf K ("law", none), 652) ?_)) F)
    (fun s u => FunD.bindsA (ps := ["script"]) F (fun _ _ _ _ _ _ us hl => match us, hl with | [_], _ => rfl) s [u] rfl) ?_ (law_ok hlen)
  · obtain ⟨z, hz, rfl⟩ := mem p hp
    exact c.empty z hz
  · obtain ⟨z, hz, rfl⟩ := mem p hp
    exact c.out z hz
  · obtain ⟨z, hz, rfl⟩ := mem p hp
    exact PySem.W.codeHd_of_K KX (c.hd z hz)
  · rw [ts]; exact List.mem_cons_self
  · rw [ts]; exact List.mem_cons_of_mem _ List.mem_cons_self
  · rw [ts]
    show ∀ p ∈ tabT, p.1 ∈ ([645, 652] : List Addr)
    decide +kernel
end k04
open PySem PySem.W PySem.Calls PyProof.Rows
theorem PySem.Challenge.cw_pacewide_k04_refusals_of_spans_holds : PySem.Challenge.rw_pacewide_k04_refusals_of_spans.Holds := by
  w_on; o_law
  refine HandSHeadRun.head_any (r := OpenLaw.row PySem.Challenge.rw_pacewide_k04_refusals_of_spans) (q := view (OpenLaw.row PySem.Challenge.rw_pacewide_k04_refusals_of_spans).prog [118]) (H := k04.hk) (ob := k04.ob) (M := 6000) (loose := k04.loose) (d := HandSHeadRun.topDef (OpenLaw.row PySem.Challenge.rw_pacewide_k04_refusals_of_spans).prog 118) (kwd := []) k04.ob_eq
    (by kernel_rfl) (fun s => by kernel_rfl) k04.hrun (by kernel_rfl) (by kernel_rfl) (by kernel_rfl) (by rfl) (by first | assumption | decide +kernel) (by decide +kernel) ⟨rfl, rfl, rfl, rfl, rfl, by decide +kernel⟩ ?hw ?hc
  case hw => w_witness2
  case hc => exact k04.walk (by kernel_rfl) (by kernel_rfl)
