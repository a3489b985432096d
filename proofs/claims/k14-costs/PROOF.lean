import PyProof.Rows.All
import Wide.All
import OpenK.AllK
import Wide.FinOn
import HandS.ForMost
import HandS.ForExc
import HandS.Flow
import HandS.Wide
import HandS.Deep
import HandS.Style
import HandS.StrMore
import HandS.Conv
import HandS.ExcInit
import HandS.IsInst
import HandS.TupAny
import HandS.RaiseMore
import HandS.SortInts
import HandS.Strs
import KE.KDictKeyed
import KE.KeyNested
import KE.SortData
import HandS.SetFor
import HandS.ExcIs
import HandS.WordsExc
import HandS.ExcField
import HandS.TryMany
import PySem.Challenge.RW_heldloops_k14_costs
set_option Elab.async false
set_option linter.all false
set_option maxRecDepth 100000
set_option maxHeartbeats 2000000
section
set_option Elab.async false
set_option linter.all false
set_option maxRecDepth 100000
set_option autoImplicit false
/-! MiniPy, part A: values as trees, who owns what, how a state goes on. -/
namespace Mp
open PySem PySem.Spec PyProof.Rows L2

/-- what does not change through one law -/
structure Ct where
  prog : Program
  w : World
  K : PySem.W.Frag
  mg : Str → Option Value
  base : Heap

abbrev FS := Addr → Prop

/-- a value that may own lists, dicts, instances -/
inductive T where
  | fz (d : PyData)
  | ls (ts : List T)
  | dk (kvs : List (Key × T))
  | dn (kvs : List (NestedKey × T))
  | ins (c : Str) (fs : List (Str × T))

/-! ### data over a heap -/
theorem sqT_same {K : PySem.W.Frag} {H H' : Hp} {a : Addr} {xs : List V} (e : Same H H') (h : SqT K H a xs) : SqT K H' a xs := by
  rcases h with (h | ⟨o, h⟩) | h
  · exact .inl (.inl (e _ _ h))
  · exact .inl (.inr ⟨o, e _ _ h⟩)
  · exact .inr h
mutual
/-- the value v is the data d over the heap H: its lists are the call's own, its tuples may be the module's -/
inductive Dz (K : PySem.W.Frag) (H : Hp) : V → PyData → Prop
  | non : Dz K H .non .none
  | bl (b : Bool) : Dz K H (.bl b) (.bool b)
  | int (i : Int) : Dz K H (.int i) (.int i)
  | str (x : Str) : Dz K H (.str x) (.str x)
  | lst {a : Addr} {xs : List V} {ds : List PyData} : Rd H a (.lst xs) → DzAll K H xs ds → Dz K H (.ref a) (.list ds)
  | tup {a : Addr} {xs : List V} {ds : List PyData} : SqT K H a xs → DzAll K H xs ds → Dz K H (.ref a) (.tuple ds)
inductive DzAll (K : PySem.W.Frag) (H : Hp) : List V → List PyData → Prop
  | nil : DzAll K H [] []
  | cons {v : V} {vs : List V} {d : PyData} {ds : List PyData} : Dz K H v d → DzAll K H vs ds → DzAll K H (v :: vs) (d :: ds)
end
mutual
theorem Dz.dp {K : PySem.W.Frag} {H : Hp} : ∀ {v : V} {d : PyData}, Dz K H v d → Dp K H v d
  | _, _, .non => .non
  | _, _, .bl b => .bl b
  | _, _, .int i => .int i
  | _, _, .str x => .str x
  | _, _, .lst hs ha => .lst (.inl hs) (DzAll.dp ha)
  | _, _, .tup hs ha => .tup hs (DzAll.dp ha)
theorem DzAll.dp {K : PySem.W.Frag} {H : Hp} : ∀ {vs : List V} {ds : List PyData}, DzAll K H vs ds → DpAll K H vs ds
  | _, _, .nil => .nil
  | _, _, .cons h t => .cons (Dz.dp h) (DzAll.dp t)
end
theorem rd_same {H H' : Hp} (e : Same H H') {a : Addr} {u : HO} (h : Rd H a u) : Rd H' a u := by
  rcases h with h | ⟨o, h⟩
  · exact .inl (e _ _ h)
  · exact .inr ⟨o, e _ _ h⟩
mutual
theorem dp_same {K : PySem.W.Frag} {H H' : Hp} (e : Same H H') : ∀ {v : V} {d : PyData}, Dz K H v d → Dz K H' v d
  | _, _, .non => .non
  | _, _, .bl b => .bl b
  | _, _, .int i => .int i
  | _, _, .str x => .str x
  | _, _, .lst hs ha => .lst (rd_same e hs) (dpAll_same e ha)
  | _, _, .tup hs ha => .tup (sqT_same e hs) (dpAll_same e ha)
theorem dpAll_same {K : PySem.W.Frag} {H H' : Hp} (e : Same H H') : ∀ {vs : List V} {ds : List PyData}, DzAll K H vs ds → DzAll K H' vs ds
  | _, _, .nil => .nil
  | _, _, .cons h t => .cons (dp_same e h) (dpAll_same e t)
end
theorem dpAll_len {K : PySem.W.Frag} {H : Hp} : ∀ {vs : List V} {ds : List PyData}, DzAll K H vs ds → vs.length = ds.length
  | _, _, .nil => rfl
  | _, _, .cons _ t => by rw [List.length_cons, List.length_cons, dpAll_len t]
theorem dpAll_get {K : PySem.W.Frag} {H : Hp} : ∀ {vs : List V} {ds : List PyData} {i : Nat} {d : PyData}, DzAll K H vs ds → ds[i]? = some d → ∃ v, vs[i]? = some v ∧ Dz K H v d
  | _, _, _, _, .nil, h => by simp at h
  | _, _, 0, _, .cons a _, h => ⟨_, rfl, by simpa using (Option.some.inj h) ▸ a⟩
  | _, _, i + 1, d, .cons _ t, h => by
    obtain ⟨v, h1, h2⟩ := dpAll_get (i := i) (d := d) t (by simpa using h)
    exact ⟨v, by simpa using h1, h2⟩
theorem dpAll_append {K : PySem.W.Frag} {H : Hp} : ∀ {vs ws : List V} {ds es : List PyData}, DzAll K H vs ds → DzAll K H ws es → DzAll K H (vs ++ ws) (ds ++ es)
  | _, _, _, _, .nil, s => s
  | _, _, _, _, .cons a t, s => .cons a (dpAll_append t s)
theorem dpAll_take {K : PySem.W.Frag} {H : Hp} : ∀ (n : Nat) {vs : List V} {ds : List PyData}, DzAll K H vs ds → DzAll K H (vs.take n) (ds.take n)
  | 0, _, _, _ => by simpa using DzAll.nil
  | _ + 1, _, _, .nil => .nil
  | n + 1, _, _, .cons a t => .cons a (dpAll_take n t)
theorem dpAll_drop {K : PySem.W.Frag} {H : Hp} : ∀ (n : Nat) {vs : List V} {ds : List PyData}, DzAll K H vs ds → DzAll K H (vs.drop n) (ds.drop n)
  | 0, _, _, h => by simpa using h
  | _ + 1, _, _, .nil => .nil
  | n + 1, _, _, .cons _ t => dpAll_drop n t
theorem dpAll_of {K : PySem.W.Frag} {H : Hp} : ∀ {vs : List V} {ds : List PyData}, vs.length = ds.length → (∀ (i : Nat) v d, vs[i]? = some v → ds[i]? = some d → Dz K H v d) → DzAll K H vs ds
  | [], [], _, _ => .nil
  | [], _ :: _, h, _ => by simp at h
  | _ :: _, [], h, _ => by simp at h
  | v :: vs, d :: ds, h, f => .cons (f 0 v d rfl rfl) (dpAll_of (by simpa using h) fun i v' d' a b => f (i + 1) v' d' (by simpa using a) (by simpa using b))
theorem dpAll_mem {K : PySem.W.Frag} {H : Hp} : ∀ {vs : List V} {ds : List PyData} {v : V}, DzAll K H vs ds → v ∈ vs → ∃ d ∈ ds, Dz K H v d
  | _, _, _, .nil, h => by simp at h
  | _, _, v, .cons a t, h => by
    rcases List.mem_cons.mp h with rfl | h
    · exact ⟨_, List.mem_cons_self, a⟩
    · obtain ⟨d, h1, h2⟩ := dpAll_mem t h
      exact ⟨d, List.mem_cons_of_mem _ h1, h2⟩
theorem dpAll_map {K : PySem.W.Frag} {H : Hp} {α : Type} {f : α → V} {g : α → PyData} : ∀ {l : List α}, (∀ x ∈ l, Dz K H (f x) (g x)) → DzAll K H (l.map f) (l.map g)
  | [], _ => .nil
  | x :: l, h => .cons (h x List.mem_cons_self) (dpAll_map fun y hy => h y (List.mem_cons_of_mem _ hy))

/-! ### what is owned -/
def At (rd : Bool) (H : Hp) (a : Addr) (u : HO) : Prop := H a = some u ∨ (rd = true ∧ ∃ o, H a = some (.frz o u))
theorem At.rd {rd : Bool} {H : Hp} {a : Addr} {u : HO} (h : At rd H a u) : Rd H a u := by
  rcases h with h | ⟨_, o, h⟩
  · exact .inl h
  · exact .inr ⟨o, h⟩
theorem At.wr {H : Hp} {a : Addr} {u : HO} (h : At false H a u) : H a = some u := by
  rcases h with h | ⟨h, _⟩
  · exact h
  · cases h
theorem At.ex {rd : Bool} {H : Hp} {a : Addr} {u : HO} (h : At rd H a u) : ∃ o, H a = some o := by
  rcases h with h | ⟨_, o, h⟩
  · exact ⟨_, h⟩
  · exact ⟨_, h⟩
theorem At.keep {rd : Bool} {H H' : Hp} {a : Addr} {u : HO} (h : At rd H a u) (k : ∀ o, H a = some o → H' a = some o) : At rd H' a u := by
  rcases h with h | ⟨e, o, h⟩
  · exact .inl (k _ h)
  · exact .inr ⟨e, o, k _ h⟩
theorem At.toRd {H : Hp} {a : Addr} {u : HO} (h : H a = some u) {rd : Bool} : At rd H a u := .inl h

/-- a dict whose keys are tuples, as an object: key, the key's own tuple, value -/
def DicN (P : Program) (w : World) (a : Addr) (xs : List (NestedKey × Addr × V)) : HO :=
  .ext fun h => xs.length ≤ sizeLine ∧ (a == sysModules) = false ∧ ∃ us : List (NestedKey × Addr × Value),
    Paired (fun (p : NestedKey × Addr × V) (q : NestedKey × Addr × Value) => p.1 = q.1 ∧ p.2.1 = q.2.1 ∧ RelV p.2.2 q.2.2) xs us ∧
    ∃ o es ep, h.get? a = some o ∧ o.ExactDict ∧ o.data = .dict es ep ∧ es.toList = us.map (entryOfKey (nestedKind P w)) ∧ (us.map (·.1)).Nodup

mutual
/-- the value v is the tree t; its own objects are U (rd: they may be locked) -/
inductive Own (C : Ct) (rd : Bool) (H Z : Hp) : V → T → FS → Prop
  | fz {v : V} {d : PyData} {U : FS} : Dz C.K Z v d → (∀ b, ¬ U b) → Own C rd H Z v (.fz d) U
  | ls {a : Addr} {vs : List V} {ts : List T} {S U : FS} : At rd H a (.lst vs) → OwnL C rd H Z vs ts S → ¬ S a → (∀ b, U b ↔ b = a ∨ S b) → Own C rd H Z (.ref a) (.ls ts) U
  | dk {a : Addr} {kvs : List (Key × V)} {kts : List (Key × T)} {S U : FS} : At rd H a (.dK kvs) → kvs.map (·.1) = kts.map (·.1) → OwnL C rd H Z (kvs.map (·.2)) (kts.map (·.2)) S → ¬ S a →
      (∀ b, U b ↔ b = a ∨ S b) → Own C rd H Z (.ref a) (.dk kts) U
  | dn {a : Addr} {xs : List (NestedKey × Addr × V)} {kts : List (NestedKey × T)} {S U : FS} : At rd H a (DicN C.prog C.w a xs) → xs.map (·.1) = kts.map (·.1) →
      (∀ x ∈ xs, Dz C.K Z (.ref x.2.1) x.1.data ∧ x.1.depth ≤ 8) → OwnL C rd H Z (xs.map (·.2.2)) (kts.map (·.2)) S → ¬ S a → (∀ b, U b ↔ b = a ∨ S b) → Own C rd H Z (.ref a) (.dn kts) U
  | ins {a dx A : Addr} {c : Str} {fs : List (Str × V)} {fts : List (Str × T)} {S U : FS} : C.mg c = some (.ref A) → H a = some (.ins A dx fs) → H dx = some (.own a) → fs.map (·.1) = fts.map (·.1) →
      OwnL C rd H Z (fs.map (·.2)) (fts.map (·.2)) S → ¬ S a → ¬ S dx → (∀ b, U b ↔ b = a ∨ b = dx ∨ S b) → Own C rd H Z (.ref a) (.ins c fts) U
inductive OwnL (C : Ct) (rd : Bool) (H Z : Hp) : List V → List T → FS → Prop
  | nil {U : FS} : (∀ b, ¬ U b) → OwnL C rd H Z [] [] U
  | cons {v : V} {t : T} {vs : List V} {ts : List T} {S S' U : FS} : Own C rd H Z v t S → OwnL C rd H Z vs ts S' → (∀ b, S b → ¬ S' b) → (∀ b, U b ↔ S b ∨ S' b) → OwnL C rd H Z (v :: vs) (t :: ts) U
end

section
variable {C : Ct} {rd : Bool} {H H' Z Z' : Hp}
mutual
theorem Own.live : ∀ {v : V} {t : T} {U : FS}, Own C rd H Z v t U → ∀ b, U b → ∃ o, H b = some o
  | _, _, _, .fz _ h, b, q => absurd q (h b)
  | _, _, _, .ls h1 h2 _ h4, b, q => by
    rcases (h4 b).mp q with rfl | q
    · exact h1.ex
    · exact OwnL.live h2 b q
  | _, _, _, .dk h1 _ h2 _ h4, b, q => by
    rcases (h4 b).mp q with rfl | q
    · exact h1.ex
    · exact OwnL.live h2 b q
  | _, _, _, .dn h1 _ _ h2 _ h4, b, q => by
    rcases (h4 b).mp q with rfl | q
    · exact h1.ex
    · exact OwnL.live h2 b q
  | _, _, _, .ins _ h1 h0 _ h2 _ _ h4, b, q => by
    rcases (h4 b).mp q with rfl | rfl | q
    · exact ⟨_, h1⟩
    · exact ⟨_, h0⟩
    · exact OwnL.live h2 b q
theorem OwnL.live : ∀ {vs : List V} {ts : List T} {U : FS}, OwnL C rd H Z vs ts U → ∀ b, U b → ∃ o, H b = some o
  | _, _, _, .nil h, b, q => absurd q (h b)
  | _, _, _, .cons h1 h2 _ h4, b, q => by
    rcases (h4 b).mp q with q | q
    · exact Own.live h1 b q
    · exact OwnL.live h2 b q
end
mutual
theorem Own.keep (zz : Same Z Z') : ∀ {v : V} {t : T} {U : FS}, Own C rd H Z v t U → (∀ b, U b → ∀ o, H b = some o → H' b = some o) → Own C rd H' Z' v t U
  | _, _, _, .fz h e, _ => .fz (dp_same zz h) e
  | _, _, _, .ls h1 h2 h3 h4, k => .ls (h1.keep (k _ ((h4 _).mpr (.inl rfl)))) (OwnL.keep zz h2 fun b q => k b ((h4 b).mpr (.inr q))) h3 h4
  | _, _, _, .dk h1 e h2 h3 h4, k => .dk (h1.keep (k _ ((h4 _).mpr (.inl rfl)))) e (OwnL.keep zz h2 fun b q => k b ((h4 b).mpr (.inr q))) h3 h4
  | _, _, _, .dn h1 e hk h2 h3 h4, k => .dn (h1.keep (k _ ((h4 _).mpr (.inl rfl)))) e (fun x hx => ⟨dp_same zz (hk x hx).1, (hk x hx).2⟩) (OwnL.keep zz h2 fun b q => k b ((h4 b).mpr (.inr q))) h3 h4
  | _, _, _, .ins hm h1 h0 e h2 h3 h5 h4, k => .ins hm (k _ ((h4 _).mpr (.inl rfl)) _ h1) (k _ ((h4 _).mpr (.inr (.inl rfl))) _ h0) e (OwnL.keep zz h2 fun b q => k b ((h4 b).mpr (.inr (.inr q)))) h3 h5 h4
theorem OwnL.keep (zz : Same Z Z') : ∀ {vs : List V} {ts : List T} {U : FS}, OwnL C rd H Z vs ts U → (∀ b, U b → ∀ o, H b = some o → H' b = some o) → OwnL C rd H' Z' vs ts U
  | _, _, _, .nil h, _ => .nil h
  | _, _, _, .cons h1 h2 h3 h4, k => .cons (Own.keep zz h1 fun b q => k b ((h4 b).mpr (.inl q))) (OwnL.keep zz h2 fun b q => k b ((h4 b).mpr (.inr q))) h3 h4
end
mutual
/-- to be read alone -/
theorem Own.toRd : ∀ {v : V} {t : T} {U : FS}, Own C false H Z v t U → Own C true H Z v t U
  | _, _, _, .fz h e => .fz h e
  | _, _, _, .ls h1 h2 h3 h4 => .ls (.inl h1.wr) (OwnL.toRd h2) h3 h4
  | _, _, _, .dk h1 e h2 h3 h4 => .dk (.inl h1.wr) e (OwnL.toRd h2) h3 h4
  | _, _, _, .dn h1 e hk h2 h3 h4 => .dn (.inl h1.wr) e hk (OwnL.toRd h2) h3 h4
  | _, _, _, .ins hm h1 h0 e h2 h3 h5 h4 => .ins hm h1 h0 e (OwnL.toRd h2) h3 h5 h4
theorem OwnL.toRd : ∀ {vs : List V} {ts : List T} {U : FS}, OwnL C false H Z vs ts U → OwnL C true H Z vs ts U
  | _, _, _, .nil h => .nil h
  | _, _, _, .cons h1 h2 h3 h4 => .cons (Own.toRd h1) (OwnL.toRd h2) h3 h4
end
theorem OwnL.len : ∀ {vs : List V} {ts : List T} {U : FS}, OwnL C rd H Z vs ts U → vs.length = ts.length
  | _, _, _, .nil _ => rfl
  | _, _, _, .cons _ h2 _ _ => by rw [List.length_cons, List.length_cons, OwnL.len h2]
theorem Own.ext {v : V} {t : T} {U U' : FS} (h : Own C rd H Z v t U) (e : ∀ b, U' b ↔ U b) : Own C rd H Z v t U' := by
  cases h with
  | fz h q => exact .fz h fun b x => q b ((e b).mp x)
  | ls h1 h2 h3 h4 => exact .ls h1 h2 h3 fun b => (e b).trans (h4 b)
  | dk h1 q h2 h3 h4 => exact .dk h1 q h2 h3 fun b => (e b).trans (h4 b)
  | dn h1 q hk h2 h3 h4 => exact .dn h1 q hk h2 h3 fun b => (e b).trans (h4 b)
  | ins hm h1 h0 q h2 h3 h5 h4 => exact .ins hm h1 h0 q h2 h3 h5 fun b => (e b).trans (h4 b)
theorem OwnL.ext {vs : List V} {ts : List T} {U U' : FS} (h : OwnL C rd H Z vs ts U) (e : ∀ b, U' b ↔ U b) : OwnL C rd H Z vs ts U' := by
  cases h with
  | nil q => exact .nil fun b x => q b ((e b).mp x)
  | cons h1 h2 h3 h4 => exact .cons h1 h2 h3 fun b => (e b).trans (h4 b)
end

/-! ### the tree as data -/
mutual
def T.data : T → Option PyData
  | .fz d => some d
  | .ls ts => (T.datas ts).map .list
  | _ => none
def T.datas : List T → Option (List PyData)
  | [] => some []
  | t :: ts => match T.data t, T.datas ts with
    | some d, some ds => some (d :: ds)
    | _, _ => none
end
section
variable {C : Ct} {rd : Bool} {H H' Z Z' : Hp}
mutual
/-- read as data over the whole heap -/
theorem Own.peek (zh : Same Z H) : ∀ {v : V} {t : T} {U : FS} {d : PyData}, Own C rd H Z v t U → t.data = some d → Dz C.K H v d
  | _, _, _, _, .fz h _, e => by
    simp only [T.data, Option.some.injEq] at e
    exact e ▸ dp_same zh h
  | _, _, _, _, .ls (ts := ts) h1 h2 _ _, e => by
    simp only [T.data, Option.map_eq_some_iff] at e
    obtain ⟨ds, e1, rfl⟩ := e
    exact .lst h1.rd (OwnL.peek zh h2 e1)
  | _, _, _, _, .dk .., e => by simp [T.data] at e
  | _, _, _, _, .dn .., e => by simp [T.data] at e
  | _, _, _, _, .ins .., e => by simp [T.data] at e
theorem OwnL.peek (zh : Same Z H) : ∀ {vs : List V} {ts : List T} {U : FS} {ds : List PyData}, OwnL C rd H Z vs ts U → T.datas ts = some ds → DzAll C.K H vs ds
  | _, _, _, _, .nil _, e => by
    simp only [T.datas, Option.some.injEq] at e
    exact e ▸ .nil
  | _, _, _, _, .cons (t := t) (ts := ts) h1 h2 _ _, e => by
    simp only [T.datas] at e
    cases q1 : t.data with
    | none => rw [q1] at e; simp at e
    | some d =>
      cases q2 : T.datas ts with
      | none => rw [q1, q2] at e; simp at e
      | some ds =>
        rw [q1, q2] at e
        simp only [Option.some.injEq] at e
        exact e ▸ .cons (Own.peek zh h1 q1) (OwnL.peek zh h2 q2)
end
mutual
/-- frozen: its own objects are given over to the frozen part -/
theorem Own.freeze {Zn : Hp} : ∀ {v : V} {t : T} {U : FS} {d : PyData}, Own C false H Z v t U → t.data = some d → Same Z Zn → (∀ b o, U b → H b = some o → Zn b = some o) → Dz C.K Zn v d
  | _, _, _, _, .fz h _, e, zz, _ => by
    simp only [T.data, Option.some.injEq] at e
    exact e ▸ dp_same zz h
  | _, _, _, _, .ls (ts := ts) h1 h2 _ h4, e, zz, k => by
    simp only [T.data, Option.map_eq_some_iff] at e
    obtain ⟨ds, e1, rfl⟩ := e
    exact .lst (.inl (k _ _ ((h4 _).mpr (.inl rfl)) h1.wr)) (OwnL.freeze h2 e1 zz fun b o q => k b o ((h4 b).mpr (.inr q)))
  | _, _, _, _, .dk .., e, _, _ => by simp [T.data] at e
  | _, _, _, _, .dn .., e, _, _ => by simp [T.data] at e
  | _, _, _, _, .ins .., e, _, _ => by simp [T.data] at e
theorem OwnL.freeze {Zn : Hp} : ∀ {vs : List V} {ts : List T} {U : FS} {ds : List PyData}, OwnL C false H Z vs ts U → T.datas ts = some ds → Same Z Zn → (∀ b o, U b → H b = some o → Zn b = some o) → DzAll C.K Zn vs ds
  | _, _, _, _, .nil _, e, _, _ => by
    simp only [T.datas, Option.some.injEq] at e
    exact e ▸ .nil
  | _, _, _, _, .cons (t := t) (ts := ts) h1 h2 _ h4, e, zz, k => by
    simp only [T.datas] at e
    cases q1 : t.data with
    | none => rw [q1] at e; simp at e
    | some d =>
      cases q2 : T.datas ts with
      | none => rw [q1, q2] at e; simp at e
      | some ds =>
        rw [q1, q2] at e
        simp only [Option.some.injEq] at e
        exact e ▸ .cons (Own.freeze h1 q1 zz fun b o q => k b o ((h4 b).mpr (.inl q))) (OwnL.freeze h2 q2 zz fun b o q => k b o ((h4 b).mpr (.inr q)))
end
theorem OwnL.fzs {U : FS} (hU : ∀ b, ¬ U b) : ∀ {vs : List V} {ds : List PyData}, DzAll C.K Z vs ds → OwnL C rd H Z vs (ds.map T.fz) U
  | _, _, .nil => .nil hU
  | _, _, .cons h t => .cons (S := fun _ => False) (S' := fun _ => False) (.fz h fun _ x => x) (OwnL.fzs (fun _ x => x) t) (fun _ x => x.elim) fun b => by
    constructor
    · intro x; exact absurd x (hU b)
    · rintro (x | x) <;> exact x.elim
end

/-! ### how a state goes on -/
structure Stp (H Z : Hp) (A : FS) (H' Z' : Hp) (A' : FS) : Prop where
  zz : Same Z Z'
  keep : ∀ b o, H b = some o → ¬ A b → H' b = some o
  new : ∀ b, A' b → A b ∨ H b = none
  nz : ∀ b o, Z' b = some o → Z b = some o ∨ A b ∨ H b = none
theorem Stp.refl {H Z : Hp} {A : FS} : Stp H Z A H Z A := ⟨Same.refl Z, fun _ _ h _ => h, fun _ h => .inl h, fun _ _ h => .inl h⟩
theorem Stp.trans {H Z H1 Z1 H2 Z2 : Hp} {A A1 A2 : FS} (p : Stp H Z A H1 Z1 A1) (q : Stp H1 Z1 A1 H2 Z2 A2) : Stp H Z A H2 Z2 A2 where
  zz := p.zz.trans q.zz
  keep := fun b o h n => q.keep b o (p.keep b o h n) fun x => by
    rcases p.new b x with y | y
    · exact n y
    · rw [h] at y; cases y
  new := fun b x => by
    rcases q.new b x with y | y
    · exact p.new b y
    · by_cases n : A b
      · exact .inl n
      · refine .inr ?_
        cases e : H b with
        | none => rfl
        | some o => rw [p.keep b o e n] at y; cases y
  nz := fun b o h => by
    rcases q.nz b o h with y | y | y
    · exact p.nz b o y
    · rcases p.new b y with z | z
      · exact .inr (.inl z)
      · exact .inr (.inr z)
    · by_cases n : A b
      · exact .inr (.inl n)
      · refine .inr (.inr ?_)
        cases e : H b with
        | none => rfl
        | some o' => rw [p.keep b o' e n] at y; cases y
theorem Stp.mono {H Z H' Z' : Hp} {A A' B B' : FS} (p : Stp H Z A H' Z' A') (h : ∀ b, A b → B b) (h' : ∀ b, B' b → A' b ∨ B b) : Stp H Z B H' Z' B' where
  zz := p.zz
  keep := fun b o e n => p.keep b o e fun x => n (h b x)
  new := fun b x => by
    rcases h' b x with y | y
    · rcases p.new b y with z | z
      · exact .inl (h b z)
      · exact .inr z
    · exact .inl y
  nz := fun b o x => by
    rcases p.nz b o x with y | y | y
    · exact .inl y
    · exact .inr (.inl (h b y))
    · exact .inr (.inr y)
/-- a new object, frozen -/
theorem Stp.newZ {H Z : Hp} {A : FS} {p : Addr} {o : HO} (zh : Same Z H) (hp : H p = none) : Stp H Z A (upd H p o) (upd Z p o) A ∧ Same (upd Z p o) (upd H p o) := by
  have zp : Z p = none := zh.free hp
  refine ⟨⟨fun b u e => ?_, fun b u e _ => ?_, fun b x => .inl x, fun b u e => ?_⟩, fun b u e => ?_⟩
  · rw [upd_ne (ne_of_none e zp)]; exact e
  · rw [upd_ne (ne_of_none e hp)]; exact e
  · by_cases q : b = p
    · subst q; exact .inr (.inr hp)
    · rw [upd_ne q] at e; exact .inl e
  · by_cases q : b = p
    · subst q
      rw [upd_same] at e ⊢
      exact e
    · rw [upd_ne q] at e ⊢
      exact zh b u e
/-- a new object, owned -/
theorem Stp.newA {H Z : Hp} {A A' : FS} {p : Addr} {o : HO} (hp : H p = none) (h : ∀ b, A' b → A b ∨ b = p) : Stp H Z A (upd H p o) Z A' :=
  ⟨Same.refl Z, fun b u e _ => by rw [upd_ne (ne_of_none e hp)]; exact e, fun b x => by
    rcases h b x with y | rfl
    · exact .inl y
    · exact .inr hp, fun b u e => .inl e⟩
/-- an owned object is changed -/
theorem Stp.wr {H Z : Hp} {A A' : FS} {p : Addr} {o : HO} (hp : A p) (h : ∀ b, A' b → A b) : Stp H Z A (upd H p o) Z A' :=
  ⟨Same.refl Z, fun b u e n => by rw [upd_ne (fun q => n (by rw [q]; exact hp))]; exact e, fun b x => .inl (h b x), fun b u e => .inl e⟩
/-- what stands apart is as it was -/
theorem Stp.own {C : Ct} {rd : Bool} {H Z H' Z' : Hp} {A A' : FS} (p : Stp H Z A H' Z' A') {v : V} {t : T} {U : FS} (h : Own C rd H Z v t U) (d : ∀ b, U b → ¬ A b) : Own C rd H' Z' v t U :=
  h.keep p.zz fun b x o e => p.keep b o e (d b x)
theorem Stp.ownL {C : Ct} {rd : Bool} {H Z H' Z' : Hp} {A A' : FS} (p : Stp H Z A H' Z' A') {vs : List V} {ts : List T} {U : FS} (h : OwnL C rd H Z vs ts U) (d : ∀ b, U b → ¬ A b) : OwnL C rd H' Z' vs ts U :=
  h.keep p.zz fun b x o e => p.keep b o e (d b x)
theorem Stp.apart {C : Ct} {rd : Bool} {H Z H' Z' : Hp} {A A' : FS} (p : Stp H Z A H' Z' A') {v : V} {t : T} {U : FS} (h : Own C rd H Z v t U) (d : ∀ b, U b → ¬ A b) : ∀ b, U b → ¬ A' b := fun b x y => by
  rcases p.new b y with z | z
  · exact d b x z
  · obtain ⟨o, e⟩ := h.live b x
    rw [e] at z; cases z
theorem Stp.free {C : Ct} {rd : Bool} {H Z H' Z' : Hp} {A A' : FS} (p : Stp H Z A H' Z' A') {v : V} {t : T} {U : FS} (h : Own C rd H Z v t U) (d : ∀ b, U b → ¬ A b) (z : ∀ b, U b → Z b = none) : ∀ b, U b → Z' b = none := fun b x => by
  cases e : Z' b with
  | none => rfl
  | some o =>
    rcases p.nz b o e with y | y | y
    · rw [z b x] at y; cases y
    · exact absurd y (d b x)
    · obtain ⟨o', e'⟩ := h.live b x
      rw [e'] at y; cases y
end Mp

end
section
set_option Elab.async false
set_option linter.all false
set_option maxRecDepth 100000
set_option autoImplicit false
/-! MiniPy, part B: the small language and what it computes. -/
namespace Mp
open PySem PySem.Spec PyProof.Rows L2

/-! ### ways into a tree -/
inductive Sg where
  | ix (k : Nat) | key (k : Key) | nk (k : NestedKey) | fld (f : Str)
  deriving DecidableEq
def noNk : List Sg → Bool
  | [] => true
  | .nk _ :: _ => false
  | _ :: p => noNk p
/-- a name's place: nothing, a tree of its own, a tree that is only read, another name for a place in a tree -/
inductive Sl where
  | no | own (t : T) | ro (t : T) | al (r : Nat) (p : List Sg)
abbrev Env := List Sl

def lookA {κ α : Type} [DecidableEq κ] : List (κ × α) → κ → Option α
  | [], _ => none
  | (k, v) :: r, j => if k = j then some v else lookA r j
def putA {κ α : Type} [DecidableEq κ] : List (κ × α) → κ → α → List (κ × α)
  | [], j, x => [(j, x)]
  | (k, v) :: r, j, x => if k = j then (k, x) :: r else (k, v) :: putA r j x
def dropA {κ α : Type} [DecidableEq κ] : List (κ × α) → κ → List (κ × α)
  | [], _ => []
  | (k, v) :: r, j => if k = j then dropA r j else (k, v) :: dropA r j

def getS : T → Sg → Option T
  | .ls ts, .ix k => ts[k]?
  | .dk kvs, .key k => lookA kvs k
  | .dn kvs, .nk k => lookA kvs k
  | .ins _ fs, .fld f => lookA fs f
  | _, _ => none
def getP : T → List Sg → Option T
  | t, [] => some t
  | t, s :: p => match getS t s with
    | some u => getP u p
    | none => none
/-- another tree where one was -/
def setS : T → Sg → T → Option T
  | .ls ts, .ix k, x => if k < ts.length then some (.ls (ts.set k x)) else none
  | .dk kvs, .key k, x => if (lookA kvs k).isSome then some (.dk (putA kvs k x)) else none
  | .dn kvs, .nk k, x => if (lookA kvs k).isSome then some (.dn (putA kvs k x)) else none
  | .ins c fs, .fld f, x => if (lookA fs f).isSome then some (.ins c (putA fs f x)) else none
  | _, _, _ => none
def setP : T → List Sg → T → Option T
  | _, [], x => some x
  | t, s :: p, x => match getS t s with
    | some u => match setP u p x with
      | some u' => setS t s u'
      | none => none
    | none => none

def flatT : List T → Option (List PyData)
  | [] => some []
  | .fz d :: ts => (flatT ts).map (d :: ·)
  | _ :: _ => none
/-- a tree seen as data: frozen, or a list of frozen items -/
def peekD : T → Option PyData
  | .fz d => some d
  | .ls ts => (flatT ts).map .list
  | _ => none
theorem flatT_eq : ∀ {ts : List T} {ds : List PyData}, flatT ts = some ds → ts = ds.map T.fz
  | [], _, h => by simp only [flatT, Option.some.injEq] at h; subst h; rfl
  | .fz d :: ts, ds, h => by
    simp only [flatT, Option.map_eq_some_iff] at h
    obtain ⟨es, e, rfl⟩ := h
    rw [List.map_cons, ← flatT_eq e]
  | .ls _ :: _, _, h => by simp [flatT] at h
  | .dk _ :: _, _, h => by simp [flatT] at h
  | .dn _ :: _, _, h => by simp [flatT] at h
  | .ins _ _ :: _, _, h => by simp [flatT] at h
@[simp] theorem flatT_map : ∀ ds : List PyData, flatT (ds.map T.fz) = some ds
  | [] => rfl
  | d :: ds => by simp [flatT, flatT_map ds]

/-! ### outcomes -/
structure Exn where
  c : Str
  fs : List (Str × PyData)
inductive Res (α : Type) where
  | ok (a : α) (env : Env)
  | raise (x : Exn) (env : Env)
  | bad
namespace Res
def bind {α β : Type} : Res α → (α → Env → Res β) → Res β
  | ok a env, k => k a env
  | raise x env, _ => raise x env
  | bad, _ => bad
def ofO {α : Type} (o : Option α) (env : Env) : Res α := match o with
  | some a => ok a env
  | none => bad
end Res
@[simp] theorem bind_ok {α β : Type} (a : α) (env : Env) (k : α → Env → Res β) : Res.bind (.ok a env) k = k a env := rfl
@[simp] theorem bind_raise {α β : Type} (x : Exn) (env : Env) (k : α → Env → Res β) : Res.bind (.raise x env) k = .raise x env := rfl
@[simp] theorem bind_bad {α β : Type} (k : α → Env → Res β) : Res.bind (.bad : Res α) k = .bad := rfl
/-- no exception is let out -/
def Res.calm {α : Type} : Res α → Res α
  | .ok a env => .ok a env
  | _ => .bad
@[simp] theorem calm_ok {α : Type} (a : α) (env : Env) : Res.calm (.ok a env) = .ok a env := rfl
@[simp] theorem calm_raise {α : Type} (x : Exn) (env : Env) : Res.calm (.raise x env : Res α) = .bad := rfl
@[simp] theorem calm_bad {α : Type} : Res.calm (.bad : Res α) = .bad := rfl
@[simp] theorem ofO_some {α : Type} (a : α) (env : Env) : Res.ofO (some a) env = .ok a env := rfl
@[simp] theorem ofO_none {α : Type} (env : Env) : Res.ofO (none : Option α) env = .bad := rfl

/-- how a def takes a parameter: a value of its own, a tree to be read, a tree to be changed -/
inductive Mode where
  | val | ro | rw
  deriving DecidableEq
/-- what a call gives: a value and what the trees have become; an exception -/
inductive FR where
  | ok (r : T) (ts : List T)
  | raise (x : Exn) (ts : List T)
  | bad
structure Fn where
  modes : List Mode
  run : List T → FR
/-- the program around: its defs, methods, classes (with the fields that a new instance has), constants -/
structure Gl where
  fn : Str → Option Fn
  me : Str → Str → Option Fn
  ini : Str → Option Fn
  con : Str → Option PyData
  fld : Str → Str → Bool
  exn : Str → Option (List Str)
  hit : Str → Str → Option Bool

/-! ### the language -/
inductive Op where
  | add | sub | mul | fdiv | mod
  deriving DecidableEq
inductive Cm where
  | eq | ne | lt | le | gt | ge | isin | notin | isN | notN
  deriving DecidableEq
/-- built-in functions over data -/
inductive Bi where
  | len | abs | int | str | repr | sum | any | all | min2 | max2 | sorted | list | tuple | minL | maxL
  deriving DecidableEq
inductive Mt where
  | join | split | strip | isdigit | isalpha | index
  deriving DecidableEq
/-- one type for all: expressions, lists of them (nil, cons), places (lvar ..), targets (tvar ..), arguments (ava ..), trees (o..) -/
inductive E where
  | nil | cons (a r : E)
  -- expressions
  | con (d : PyData) | glob (x : Str)
  | rd (l : E) | pk (l : E) | fz (i : Nat)
  | neg (a : E) | tup (es : E) | lst (es : E)
  | bin (o : Op) (a b : E) | cmp (o : Cm) (a b : E) | chain (o o' : Cm) (a b c : E)
  | and (a b : E) | or (a b : E) | not (a : E) | ife (c a b : E)
  | ix (a b : E) | sl (a lo hi : E) | noPart | part (e : E) | rev (a : E) | tru (e : E) | itv (e : E) | one (e : E)
  | bi (f : Bi) (es : E) | mt0 (m : Mt) (a : E) | mt1 (m : Mt) (a b : E)
  | ofr (o : E)
  | app (l e : E) | ext (l e : E) | revL (l : E) | pop (l : E) | popAt (l e : E)
  | dget (l k d : E) | dhas (neg : Bool) (l k : E) | dixg (x : Str) (k : E)
  | sset (e : E) | isi (t : Nat) (a : E)
  | call (f : Str) (args : E) | meth (l : E) (c m : Str) (args : E)
  -- places
  | lvar (i : Nat) | lfld (l : E) (f : Str) | lix (l e : E) | lkey (l e : E) | lnk (l e : E) | lsetd (l e : E) | lsetn (l e : E)
  -- targets
  | tvar (i : Nat) | tsub (l e : E) | tkey (l e : E)
  -- what a for walks
  | range1 (a : E) | range2 (a b : E) | range3 (a b c : E) | revI (a : E) | itt (e : E) | its (e : E) | lkv (i : Nat) | dkeys (l : E)
  -- arguments
  | ava (o : E) | aro (l : E) | arw (l : E)
  -- trees
  | ofz (e : E) | mv (i : Nat) | olst (es : E) | ocomp (own : List (Str × Nat)) (elt tg it ifs : E) | olist (e : E) | orange (a : E) | odk (kvs : E) | okv (k : Key) (o : E) | odn | make (c : Str) (args : E) | methT (o : E) (c m : Str) (args : E)
/-- what an except suite reads: constants, the exception's fields, isinstance of it -/
inductive Hx where
  | con (d : PyData) | fld (f : Str) | isi (c : Str) | nil | cons (a r : Hx) | tup (es : Hx) | and (a b : Hx) | or (a b : Hx) | not (a : Hx) | one (a : Hx)
/-- an except suite -/
inductive Hs where
  | fall | ret (a : Hx) | ifr (c a : Hx) (r : Hs)
/-- the clauses of a try: the class, the name's place -/
inductive Hds where
  | nil | cons (c : Str) (i : Option Nat) (b : Hs) (r : Hds)
inductive S where
  | skip | seq (a b : S)
  | asg (i : Nat) (o : E) | asgT (tg e : E) | par (i j : Nat) (a b : E)
  | setix (l e o : E) | setkey (l e o : E) | setnk (l e o : E) | setfld (l : E) (f : Str) (o : E)
  | nick (i : Nat) (l : E)
  | ex (e : E) | ret (o : E) | retN
  | iff (c : E) (a b : S) | whil (c : E) (b : S) | fo (tg it : E) (b : S) | brk | cont
  | raise (c : Str) (es : E) | tryx (b : S) (h : Hds) | delk (l e : E) | pss | nev

/-! ### data -/
def opBin : Op → PyData → PyData → Option PyData
  | .add, .int i, .int j => some (.int (i + j))
  | .add, .str x, .str y => if x.length + y.length ≤ sizeLine then some (.str (x ++ y)) else none
  | .add, .list xs, .list ys => if xs.length + ys.length ≤ sizeLine then some (.list (xs ++ ys)) else none
  | .add, .tuple xs, .tuple ys => if xs.length + ys.length ≤ sizeLine then some (.tuple (xs ++ ys)) else none
  | .sub, .int i, .int j => some (.int (i - j))
  | .mul, .int i, .int j => if (i.natAbs < 2 ^ 64 ∨ j.natAbs < 2 ^ 64) then some (.int (i * j)) else none
  | .mul, .list xs, .int k => if (k.natAbs < 2 ^ 63 ∧ xs.length * k.toNat ≤ sizeLine) then some (.list (List.replicate k.toNat xs).flatten) else none
  | .mul, .str x, .int k => if k = 0 then some (.str Str.empty) else if k = 1 then some (.str x) else none
  | .fdiv, .int i, .int j => if (j ≠ 0 ∧ j.natAbs < 1073741824) then some (.int (i.fdiv j)) else none
  | .mod, .int i, .int j => if j ≠ 0 then some (.int (i.fmod j)) else none
  | _, _, _ => none
def isFlat : PyData → Bool
  | .int _ | .str _ | .none => true
  | _ => false
def eqD0 (d e : PyData) : Option Bool := if SeqAt.shaped d && SeqAt.shaped e then some (PyData.eqv d e) else none
def eqD : PyData → PyData → Option Bool
  | .str x, .str y => some (decide (x = y))
  | d, e => eqD0 d e
def inD : PyData → PyData → Option Bool
  | x, .list ds => if SeqAt.shaped x && SeqAt.shaped (.list ds) then some (ds.any fun z => PyData.eqv z x) else none
  | x, .tuple ds => if isFlat x && ds.all isFlat then some (ds.any fun z => PyData.eqv z x) else none
  | .str x, .str z => match x.cps.toList with
    | [c] => some (decide (c ∈ z.cps.toList))
    | _ => none
  | _, _ => none
def opCmp : Cm → PyData → PyData → Option Bool
  | .eq, d, e => eqD d e
  | .ne, d, e => (eqD d e).map (!·)
  | .lt, .int i, .int j => some (decide (i < j))
  | .le, .int i, .int j => some (decide (i ≤ j))
  | .gt, .int i, .int j => some (decide (j < i))
  | .ge, .int i, .int j => some (decide (j ≤ i))
  | .isin, x, y => inD x y
  | .notin, x, y => (inD x y).map (!·)
  | .isN, x, .none => some (match x with | .none => true | _ => false)
  | .notN, x, .none => some (match x with | .none => false | _ => true)
  | _, _, _ => none
def truD : PyData → Option Bool
  | .none => some false
  | .bool b => some b
  | .int i => some (i != 0)
  | .str y => if y.length ≤ sizeLine then some ((y.length : Int) != 0) else none
  | .list xs => some (!xs.isEmpty)
  | .tuple xs => some (!xs.isEmpty)
  | _ => none
def ixD : PyData → PyData → Option PyData
  | .list xs, .int i => atI xs i
  | .tuple xs, .int i => atI xs i
  | .str z, .int i => if z.length ≤ sizeLine then (atI z.cps.toList i).map fun c => .str ⟨#[c]⟩ else none
  | _, _ => none
def cutD {α : Type} (xs : List α) (lo hi : Option Int) : List α := (xs.drop (HT.sIx xs.length 0 lo)).take (HT.sIx xs.length xs.length hi - HT.sIx xs.length 0 lo)
def slD : PyData → Option Int → Option Int → Option PyData
  | .list xs, lo, hi => some (.list (cutD xs lo hi))
  | .tuple xs, lo, hi => some (.tuple (cutD xs lo hi))
  | .str z, lo, hi => if z.length ≤ sizeLine then some (.str (cutS z lo hi)) else none
  | _, _, _ => none
def intsOf : List PyData → Option (List Int)
  | [] => some []
  | .int i :: r => (intsOf r).map (i :: ·)
  | _ :: _ => none
def boolsOf : List PyData → Option (List Bool)
  | [] => some []
  | .bool i :: r => (boolsOf r).map (i :: ·)
  | _ :: _ => none
def strsOf : List PyData → Option (List Str)
  | [] => some []
  | .str i :: r => (strsOf r).map (i :: ·)
  | _ :: _ => none
def insI (x : Int) : List Int → List Int
  | [] => [x]
  | y :: r => if x ≤ y then x :: y :: r else y :: insI x r
def sortI : List Int → List Int
  | [] => []
  | x :: r => insI x (sortI r)
def uniqI : List Int → List Int
  | [] => []
  | x :: r => if x ∈ r then uniqI r else x :: uniqI r
def setI (ns : List Int) : List Int := sortI (uniqI ns)
/-- sorted(set(xs)) -/
def ssetD : PyData → Option PyData
  | .list xs => (intsOf xs).bind fun ns => if ns.length < 4000 ∧ (uniqI ns).length < 64 then some (.list ((setI ns).map .int)) else none
  | _ => none
def opBi : Bi → List PyData → Option PyData
  | .len, [.list xs] => some (.int xs.length)
  | .len, [.tuple xs] => some (.int xs.length)
  | .len, [.str z] => if z.length ≤ sizeLine then some (.int z.length) else none
  | .abs, [.int i] => some (.int (if i < 0 then -i else i))
  | .int, [.int i] => some (.int i)
  | .int, [.bool b] => some (.int (if b then 1 else 0))
  | .int, [.str a] => if a.length ≤ 640 then (PySem.intText? a).map .int else none
  | .str, [.int i] => if i.natAbs.log2 < 1920 then some (.str (toString i)) else none
  | .str, [.str a] => some (.str a)
  | .repr, [d] => if (SeqAt.shaped d && d.showable && decide (d.shown.length ≤ sizeLine)) = true then some (.str d.shown) else none
  | .sum, [.list xs] => (intsOf xs).map fun ns => .int ns.sum
  | .any, [.list xs] => (boolsOf xs).map fun bs => .bool (bs.any id)
  | .all, [.list xs] => (boolsOf xs).map fun bs => .bool (bs.all id)
  | .min2, [.int i, .int j] => some (.int (if j < i then j else i))
  | .max2, [.int i, .int j] => some (.int (if j > i then j else i))
  | .sorted, [.list xs] => (intsOf xs).map fun ns => .list ((sortI ns).map .int)
  | .list, [.list xs] => some (.list xs)
  | .list, [.tuple xs] => some (.list xs)
  | .tuple, [.list xs] => some (.tuple xs)
  | .tuple, [.tuple xs] => some (.tuple xs)
  | _, _ => none
/-- the types that isinstance is asked for -/
def tyNm : Nat → Str
  | 0 => "int"
  | 1 => "bool"
  | 2 => "str"
  | 3 => "list"
  | _ => "tuple"
def tyD : PyData → Option Nat
  | .int _ => some 0
  | .bool _ => some 1
  | .str _ => some 2
  | .list _ => some 3
  | .tuple _ => some 4
  | _ => none
def isiD (t : Nat) (d : PyData) : Option Bool := (tyD d).map fun a => decide (a = t) || (decide (a = 1) && decide (t = 0))
def opMt : Mt → PyData → List PyData → Option PyData
  | .join, .str a, [.list xs] => match strsOf xs with
    | some ys => if (ys.map (·.length)).sum + ys.length * a.length ≤ 16777216 then some (.str (Txt.join a ys)) else none
    | none => none
  | .split, .str a, [.str b] => if (b.length == 0) = false ∧ a.length + 2 ≤ sizeLine then some (.list ((Txt.split a b).map .str)) else none
  | .strip, .str a, [.str b] => if a.length ≤ sizeLine then some (.str (Txt.stripChars a b)) else none
  | .isdigit, .str a, [] => some (.bool (Txt.isdigit a))
  | .isalpha, .str a, [] => some (.bool (Txt.isalpha a))
  | _, _, _ => none
def keyOf : PyData → Option Key
  | .int i => some (.inl i)
  | .str x => some (.inr x)
  | _ => none
mutual
def nkOf : PyData → Option NestedKey
  | .none => some .none
  | .int i => some (.num i)
  | .str x => some (.text x)
  | .tuple ds => (nksOf ds).map .tup
  | _ => none
def nksOf : List PyData → Option (List NestedKey)
  | [] => some []
  | d :: ds => match nkOf d, nksOf ds with
    | some k, some ks => some (k :: ks)
    | _, _ => none
end
def upR (a : Int) (n : Nat) : List PyData := (List.range n).map fun (k : Nat) => PyData.int (a + (k : Int))
def upC (a c : Int) (n : Nat) : List PyData := (List.range n).map fun (k : Nat) => PyData.int (a + (k : Int) * c)
def rng2D (a b : Int) : Option (List PyData) := if (-(2 ^ 62) ≤ a ∧ a < 2 ^ 62 ∧ -(2 ^ 62) ≤ b ∧ b < 2 ^ 62) then some (upR a (b - a).toNat) else none
def rng3D (a b c : Int) : Option (List PyData) := if (c ≠ 0 ∧ c.natAbs < 1073741824 ∧ Builtin.Range.small a b c = true ∧ 0 ≤ Builtin.Range.rangeSize a b c) then some (upC a c (Builtin.Range.rangeSize a b c).toNat) else none
def itemsD : PyData → Option (List PyData)
  | .list xs => some xs
  | .tuple xs => some xs
  | .str z => some (z.cps.toList.map fun c => .str ⟨#[c]⟩)
  | _ => none

/-! ### places -/
def rootT (env : Env) (r : Nat) : Option T := match env[r]? with
  | some (.own t) => some t
  | some (.ro t) => some t
  | _ => none
def ownT (env : Env) (r : Nat) : Option T := match env[r]? with
  | some (.own t) => some t
  | _ => none
def readP (env : Env) (r : Nat) (p : List Sg) : Option T := (rootT env r).bind fun t => getP t p
def ownP (env : Env) (r : Nat) (p : List Sg) : Option T := (ownT env r).bind fun t => getP t p
def properPre : List Sg → List Sg → Bool
  | [], [] => false
  | [], _ :: _ => true
  | _ :: _, [] => false
  | a :: p, b :: q => decide (a = b) && properPre p q
/-- other names for what lies below a changed place are forgotten -/
def dimS (r : Nat) (p : List Sg) : Sl → Sl
  | .al r' q => if r' = r then .no else .al r' q
  | s => s
def dim (env : Env) (r : Nat) (p : List Sg) : Env := env.map (dimS r p)
/-- the tree at an owned place is another one now -/
def writeP (env : Env) (r : Nat) (p : List Sg) (x : T) : Option Env := match ownT env r with
  | some t => (setP t p x).map fun t' => (dim env r p).set r (.own t')
  | none => none
/-- a name gets a value: other names into its tree are forgotten -/
def dropAl (r : Nat) : Sl → Sl
  | .al r' q => if r' = r then .no else .al r' q
  | s => s
def setV (env : Env) (i : Nat) (s : Sl) : Env := (env.map (dropAl i)).set i s
def setT (env : Env) (i : Nat) (t : T) : Option Env := match env[i]? with
  | some (.ro _) => none
  | some _ => some (setV env i (.own t))
  | none => none
def bindT : E → PyData → Env → Option Env
  | .tvar i, d, env => setT env i (.fz d)
  | .cons a r, .tuple (d :: ds), env => match bindT a d env with
    | some env' => bindT r (.tuple ds) env'
    | none => none
  | .nil, .tuple [], env => some env
  | _, _, _ => none
/-- the places of a comprehension's own names: empty within, as they were behind it -/
def wipeE (env : Env) : List (Str × Nat) → Option Env
  | [] => some env
  | (_, i) :: r => match wipeE env r with
    | none => none
    | some e => match e[i]? with
      | some .no => some (setV e i .no)
      | some (.own (.fz _)) => some (setV e i .no)
      | _ => none
def backE (env0 env : Env) : List (Str × Nat) → Env
  | [] => env
  | (_, i) :: r => (backE env0 env r).set i (match env0[i]? with
    | some (.own (.fz d)) => .own (.fz d)
    | _ => .no)
/-- the names a target binds -/
def tgtsOf : E → List Nat
  | .tvar i => [i]
  | .cons a r => tgtsOf a ++ tgtsOf r
  | _ => []

/-! ### arguments -/
inductive AV where
  | val (t : T) | pth (rw : Bool) (r : Nat) (p : List Sg)
def AV.tree (env : Env) : AV → Option T
  | .val t => some t
  | .pth true r p => ownP env r p
  | .pth false r p => readP env r p
def treesOf (env : Env) : List AV → Option (List T)
  | [] => some []
  | a :: r => match a.tree env, treesOf env r with
    | some t, some ts => some (t :: ts)
    | _, _ => none
def modeOk : List Mode → List AV → Bool
  | [], [] => true
  | .val :: ms, .val _ :: as => modeOk ms as
  | .ro :: ms, .pth false _ _ :: as => modeOk ms as
  | .rw :: ms, .pth true _ _ :: as => modeOk ms as
  | _, _ => false
/-- the roots that are changed stand apart from all others -/
def rootsOk : List AV → Bool
  | [] => true
  | .val _ :: as => rootsOk as
  | .pth true r _ :: as => (as.all fun a => match a with | .pth rw r' _ => !rw && decide (r' ≠ r) | _ => true)
  | .pth false r _ :: as => (as.all fun a => match a with | .pth true r' _ => decide (r' ≠ r) | _ => true) && rootsOk as
def backA (env : Env) : List AV → List T → Option Env
  | [], _ => some env
  | .pth true r p :: as, t :: ts => match writeP env r p t with
    | some env' => backA env' as ts
    | none => none
  | _ :: as, _ :: ts => backA env as ts
  | _ :: _, [] => none
def callF (f : Option Fn) (as : List AV) (env : Env) : Res T := match f with
  | none => .bad
  | some F => if modeOk F.modes as && rootsOk as then
      match treesOf env as with
      | none => .bad
      | some ts => match F.run ts with
        | .ok r ts' => match backA env as ts' with
          | some env' => .ok r env'
          | none => .bad
        | .raise x ts' => match backA env as ts' with
          | some env' => .raise x env'
          | none => .bad
        | .bad => .bad
    else .bad

/-! ### loops -/
inductive Fl where
  | nx | ret (t : T) | bk | ct
def compL {α : Type} (f : PyData → Env → Res (Option α)) : List PyData → Env → Res (List α)
  | [], env => .ok [] env
  | x :: xs, env => (f x env).bind fun y env1 => (compL f xs env1).bind fun ys env2 => .ok (match y with | some d => d :: ys | none => ys) env2
def forL (b : PyData → Env → Res Fl) : List PyData → Env → Res Fl
  | [], env => .ok .nx env
  | x :: xs, env => (b x env).bind fun f env1 => match f with
    | .nx => forL b xs env1
    | .ct => forL b xs env1
    | .bk => .ok .nx env1
    | .ret t => .ok (.ret t) env1
def whileL (c : Env → Res Bool) (b : Env → Res Fl) : Nat → Env → Res Fl
  | 0, _ => .bad
  | n + 1, env => (c env).bind fun k env1 => if k then (b env1).bind fun f env2 => (match f with
    | .nx => whileL c b n env2
    | .ct => whileL c b n env2
    | .bk => .ok .nx env2
    | .ret t => .ok (.ret t) env2) else .ok .nx env1
end Mp

end
section
set_option Elab.async false
set_option linter.all false
set_option maxRecDepth 100000
set_option autoImplicit false
/-! MiniPy, part C: evaluation. -/
namespace Mp
open PySem PySem.Spec PyProof.Rows L2

/-- nothing is changed by it -/
def quiet : E → Bool
  | .nil => true
  | .cons a r => quiet a && quiet r
  | .con _ => true
  | .glob _ => true
  | .noPart => true
  | .rd l => quiet l
  | .pk l => quiet l
  | .neg l => quiet l
  | .tup l => quiet l
  | .lst l => quiet l
  | .not l => quiet l
  | .part l => quiet l
  | .tru l => quiet l
  | .itv l => quiet l
  | .one l => quiet l
  | .bin _ a b => quiet a && quiet b
  | .cmp _ a b => quiet a && quiet b
  | .and a b => quiet a && quiet b
  | .or a b => quiet a && quiet b
  | .ix a b => quiet a && quiet b
  | .chain _ _ a b c => quiet a && quiet b && quiet c
  | .ife a b c => quiet a && quiet b && quiet c
  | .sl a b c => quiet a && quiet b && quiet c
  | .bi _ es => quiet es
  | .isi _ a => quiet a
  | .sset a => quiet a
  | .rev a => quiet a
  | .mt0 _ a => quiet a
  | .mt1 _ a b => quiet a && quiet b
  | .lvar _ => true
  | .lfld l _ => quiet l
  | .lix l e => quiet l && quiet e
  | .lkey l e => quiet l && quiet e
  | .lnk l e => quiet l && quiet e
  | .ofz e => quiet e
  | .ava o => quiet o
  | .aro l => quiet l
  | _ => false
/-- its value does not lie in what the names own -/
def stab : E → Bool
  | .pk _ => false
  | .one a => stab a
  | .ife _ a b => stab a && stab b
  | .and _ b => stab b
  | .or _ b => stab b
  | _ => true
def stabs : E → Bool
  | .cons a r => stab a && stabs r
  | _ => true
/-- a place may be used behind a further expression -/
def late (q : Nat × List Sg) (e : E) : Bool := q.2.isEmpty || quiet e
def lateA : AV → E → Bool
  | .val _, _ => true
  | .pth _ _ p, r => p.isEmpty || quiet r
def isLs (env : Env) (q : Nat × List Sg) : Bool := match readP env q.1 q.2 with
  | some (.ls _) => true
  | _ => false
/-- a walked list of a name's is locked -/
def lk : E → Env → Env
  | .lkv i, env => match env[i]? with
    | some (.own t) => env.set i (.ro t)
    | _ => env
  | _, env => env
/-- a walked list is free again behind its loop -/
def unlk : E → Env → Env
  | .lkv i, env => match env[i]? with
    | some (.ro t) => env.set i (.own t)
    | _ => env
  | _, env => env
def intD : PyData → Option Int
  | .int i => some i
  | _ => none
def lateM (q : Nat × List Sg) (e : E) : Bool := q.2.isEmpty || quiet e
/-- an instance of this class, the name not shadowed by a field -/
def isIns (env : Env) (q : Nat × List Sg) (c m : Str) : Bool := match readP env q.1 q.2 with
  | some (.ins c' fs) => decide (c' = c) && (lookA fs m).isNone
  | _ => false
def isInsT (t : T) (c m : Str) : Bool := match t with
  | .ins c' fs => decide (c' = c) && (lookA fs m).isNone
  | _ => false
/-- the same, the changed first argument a value of its own (it is lost) -/
def selfF (F : Fn) : Option Fn := match F.modes with
  | .rw :: ms => if (ms.any fun m => decide (m = .rw)) = true then none else some { modes := .val :: ms, run := F.run }
  | .val :: _ => some F
  | _ => none
def rwF (F : Fn) : Bool := match F.modes with
  | .rw :: _ => true
  | _ => false
/-- a class is called: a new instance, then its own first method -/
def makeF (G : Gl) (c : Str) : Option Fn := (G.ini c).bind fun F => match F.modes with
  | .rw :: ms => if (ms.any fun m => decide (m = .rw)) = true then none else some { modes := ms, run := fun ts => match F.run (.ins c [] :: ts) with
    | .ok (.fz .none) (self :: ts') => .ok self ts'
    | .raise x ts' => .raise x ts'.tail
    | _ => .bad }
  | _ => none

mutual
def evE (G : Gl) : E → Env → Res PyData
  | .con d, env => .ok d env
  | .glob x, env => .ofO (G.con x) env
  | .rd l, env => (evL G l env).bind fun q env1 => match readP env1 q.1 q.2 with
    | some (.fz d) => .ok d env1
    | _ => .bad
  | .pk l, env => (evL G l env).bind fun q env1 => match readP env1 q.1 q.2 with
    | some t => .ofO (peekD t) env1
    | none => .bad
  | .fz i, env => match ownT env i with
    | some t => match t.data with
      | some d => .ok d (setV env i (.own (.fz d)))
      | none => .bad
    | none => .bad
  | .neg a, env => (evE G a env).bind fun x env1 => match x with
    | .int i => .ok (.int (-i)) env1
    | _ => .bad
  | .tup es, env => (evEs G es env).bind fun ds env1 => if ds.length ≤ sizeLine then .ok (.tuple ds) env1 else .bad
  | .lst es, env => (evEs G es env).bind fun ds env1 => if ds.length ≤ sizeLine then .ok (.list ds) env1 else .bad
  | .bin o a b, env => (evE G a env).bind fun x env1 => (evE G b env1).bind fun y env2 => .ofO (opBin o x y) env2
  | .cmp o a b, env => (evE G a env).bind fun x env1 => (evE G b env1).bind fun y env2 => .ofO ((opCmp o x y).map .bool) env2
  | .chain o o' a b c, env => (evE G a env).bind fun x env1 => (evE G b env1).bind fun y env2 => match opCmp o x y with
    | some true => (evE G c env2).bind fun z env3 => .ofO ((opCmp o' y z).map .bool) env3
    | some false => .ok (.bool false) env2
    | none => .bad
  | .and a b, env => (evE G a env).bind fun x env1 => match x with
    | .bool true => evE G b env1
    | .bool false => .ok (.bool false) env1
    | _ => .bad
  | .or a b, env => (evE G a env).bind fun x env1 => match x with
    | .bool false => evE G b env1
    | .bool true => .ok (.bool true) env1
    | _ => .bad
  | .not a, env => (evE G a env).bind fun x env1 => match x with
    | .bool c => .ok (.bool (!c)) env1
    | _ => .bad
  | .one a, env => evE G a env
  | .ife c a b, env => (evT G c env).bind fun k env1 => if k then evE G a env1 else evE G b env1
  | .ix a b, env => (evE G a env).bind fun x env1 => (evE G b env1).bind fun y env2 => .ofO (ixD x y) env2
  | .sl a lo hi, env => (evE G a env).bind fun x env1 => (evPt G lo env1).bind fun i env2 => (evPt G hi env2).bind fun j env3 => .ofO (slD x i j) env3
  | .bi f es, env => (evEs G es env).bind fun ds env1 => .ofO (opBi f ds) env1
  | .sset a, env => (evE G a env).bind fun x env1 => .ofO (ssetD x) env1
  | .isi t a, env => (evE G a env).bind fun x env1 => .ofO ((isiD t x).map .bool) env1
  | .rev a, env => (evE G a env).bind fun x env1 => match x with
    | .list xs => .ok (.list xs.reverse) env1
    | _ => .bad
  | .mt0 m a, env => (evE G a env).bind fun x env1 => match x with
    | .str z => .ofO (opMt m (.str z) []) env1
    | _ => .bad
  | .mt1 m a b, env => (evE G a env).bind fun x env1 => match x with
    | .str z => (evE G b env1).bind fun y env2 => .ofO (opMt m (.str z) [y]) env2
    | _ => .bad
  | .ofr o, env => (evO G o env).bind fun t env1 => .ofO t.data env1
  | .app l e, env => (evL G l env).bind fun q env1 => if (late q e && isLs env1 q) = false then .bad else (evE G e env1).bind fun d env2 => match ownP env2 q.1 q.2 with
    | some (.ls ts) => if ts.length < sizeLine then .ofO ((writeP env2 q.1 q.2 (.ls (ts ++ [.fz d]))).map fun _ => PyData.none) ((writeP env2 q.1 q.2 (.ls (ts ++ [.fz d]))).getD env2) else .bad
    | _ => .bad
  | .ext l e, env => (evL G l env).bind fun q env1 => if (late q e && isLs env1 q) = false then .bad else (evE G e env1).bind fun d env2 => match ownP env2 q.1 q.2, d with
    | some (.ls ts), .list ds => if ts.length + ds.length ≤ sizeLine then .ofO ((writeP env2 q.1 q.2 (.ls (ts ++ ds.map .fz))).map fun _ => PyData.none) ((writeP env2 q.1 q.2 (.ls (ts ++ ds.map .fz))).getD env2) else .bad
    | _, _ => .bad
  | .revL l, env => (evL G l env).bind fun q env1 => match ownP env1 q.1 q.2 with
    | some (.ls ts) => .ofO ((writeP env1 q.1 q.2 (.ls ts.reverse)).map fun _ => PyData.none) ((writeP env1 q.1 q.2 (.ls ts.reverse)).getD env1)
    | _ => .bad
  | .pop l, env => (evL G l env).bind fun q env1 => match ownP env1 q.1 q.2 with
    | some (.ls ts) => match ts[ts.length - 1]? with
      | some (.fz d) => .ofO ((writeP env1 q.1 q.2 (.ls ts.dropLast)).map fun _ => d) ((writeP env1 q.1 q.2 (.ls ts.dropLast)).getD env1)
      | _ => .bad
    | _ => .bad
  | .popAt l e, env => (evL G l env).bind fun q env1 => if (late q e && isLs env1 q) = false then .bad else (evE G e env1).bind fun k env2 => match ownP env2 q.1 q.2, intD k with
    | some (.ls ts), some i => match (if i.natAbs < 2 ^ 62 then ixN ts.length i else none) with
      | some j => match ts[j]? with
        | some (.fz d) => .ofO ((writeP env2 q.1 q.2 (.ls (ts.eraseIdx j))).map fun _ => d) ((writeP env2 q.1 q.2 (.ls (ts.eraseIdx j))).getD env2)
        | _ => .bad
      | none => .bad
    | _, _ => .bad
  | _, _ => .bad
def evPt (G : Gl) : E → Env → Res (Option Int)
  | .noPart, env => .ok none env
  | .part e, env => (evE G e env).bind fun x env1 => match x with
    | .int i => .ok (some i) env1
    | _ => .bad
  | _, _ => .bad
def evEs (G : Gl) : E → Env → Res (List PyData)
  | .nil, env => .ok [] env
  | .cons a r, env => (evE G a env).bind fun d env1 => (evEs G r env1).bind fun ds env2 => .ok (d :: ds) env2
  | _, _ => .bad
def evT (G : Gl) : E → Env → Res Bool
  | .nil, env => .ok true env
  | .and a b, env => (evT G a env).bind fun k env1 => if k then evT G b env1 else .ok false env1
  | .or a b, env => (evT G a env).bind fun k env1 => if k then .ok true env1 else evT G b env1
  | .not a, env => (evT G a env).bind fun k env1 => .ok (!k) env1
  | .one a, env => evT G a env
  | .cmp o a b, env => (evE G a env).bind fun x env1 => (evE G b env1).bind fun y env2 => .ofO (opCmp o x y) env2
  | .chain o o' a b c, env => (evE G a env).bind fun x env1 => (evE G b env1).bind fun y env2 => match opCmp o x y with
    | some true => (evE G c env2).bind fun z env3 => .ofO (opCmp o' y z) env3
    | some false => .ok false env2
    | none => .bad
  | .tru e, env => (evE G e env).bind fun x env1 => .ofO (truD x) env1
  | _, _ => .bad
def evL (G : Gl) : E → Env → Res (Nat × List Sg)
  | .lvar i, env => match env[i]? with
    | some (.own _) => .ok (i, []) env
    | some (.ro _) => .ok (i, []) env
    | some (.al r p) => .ok (r, p) env
    | _ => .bad
  | .lfld l f, env => (evL G l env).bind fun q env1 => match readP env1 q.1 q.2 with
    | some (.ins c fs) => if ((lookA fs f).isSome && G.fld c f) = true then .ok (q.1, q.2 ++ [.fld f]) env1 else .bad
    | _ => .bad
  | .lix l e, env => (evL G l env).bind fun q env1 => if late q e = false then .bad else (evE G e env1).bind fun k env2 => match readP env2 q.1 q.2, intD k with
    | some (.ls ts), some i => match ixN ts.length i with
      | some j => .ok (q.1, q.2 ++ [.ix j]) env2
      | none => .bad
    | _, _ => .bad
  | .lkey l e, env => (evL G l env).bind fun q env1 => if late q e = false then .bad else (evE G e env1).bind fun k env2 => match readP env2 q.1 q.2, keyOf k with
    | some (.dk kvs), some key => if (lookA kvs key).isSome then .ok (q.1, q.2 ++ [.key key]) env2 else .bad
    | _, _ => .bad
  | .lnk l e, env => (evL G l env).bind fun q env1 => if late q e = false then .bad else (evE G e env1).bind fun k env2 => match readP env2 q.1 q.2, nkOf k with
    | some (.dn kvs), some key => if (lookA kvs key).isSome then .ok (q.1, q.2 ++ [.nk key]) env2 else .bad
    | _, _ => .bad
  | _, _ => .bad
def evI (G : Gl) : E → Env → Res (List PyData)
  | .range1 a, env => (evE G a env).bind fun x env1 => match intD x with
    | some j => .ofO (rng2D 0 j) env1
    | none => .bad
  | .range2 a b, env => (evE G a env).bind fun x env1 => (evE G b env1).bind fun y env2 => match intD x, intD y with
    | some i, some j => .ofO (rng2D i j) env2
    | _, _ => .bad
  | .range3 a b c, env => (evE G a env).bind fun x env1 => (evE G b env1).bind fun y env2 => (evE G c env2).bind fun z env3 => match intD x, intD y, intD z with
    | some i, some j, some k => .ofO (rng3D i j k) env3
    | _, _, _ => .bad
  | .revI a, env => (evE G a env).bind fun x env1 => match x with
    | .list ds => .ok ds.reverse env1
    | _ => .bad
  | .lkv i, env => match env[i]? with
    | some (.own (.ls ts)) => match flatT ts with
      | some ds => .ok ds env
      | none => .bad
    | _ => .bad
  | .itv e, env => (evE G e env).bind fun x env1 => match x with
    | .list ds => .ok ds env1
    | _ => .bad
  | .itt e, env => (evE G e env).bind fun x env1 => match x with
    | .tuple ds => .ok ds env1
    | _ => .bad
  | .its e, env => (evE G e env).bind fun x env1 => match x with
    | .str z => .ok (z.cps.toList.map fun c => .str ⟨#[c]⟩) env1
    | _ => .bad
  | _, _ => .bad
def evA (G : Gl) : E → Env → Res (List AV)
  | .nil, env => .ok [] env
  | .cons a r, env => (evA1 G a env).bind fun v env1 => if lateA v r = false then .bad else (evA G r env1).bind fun vs env2 => if (v.tree env2).isSome then .ok (v :: vs) env2 else .bad
  | _, _ => .bad
def evA1 (G : Gl) : E → Env → Res AV
  | .ava o, env => (evO G o env).bind fun t env1 => .ok (.val t) env1
  | .aro l, env => (evL G l env).bind fun q env1 => .ok (.pth false q.1 q.2) env1
  | .arw l, env => (evL G l env).bind fun q env1 => .ok (.pth true q.1 q.2) env1
  | _, _ => .bad
def evO (G : Gl) : E → Env → Res T
  | .ofz e, env => (evE G e env).bind fun d env1 => .ok (.fz d) env1
  | .mv i, env => match ownT env i with
    | some t => .ok t (setV env i .no)
    | none => .bad
  | .olst es, env => (evOs G es env).bind fun ts env1 => if ts.length ≤ sizeLine then .ok (.ls ts) env1 else .bad
  | .ocomp own elt tg it ifs, env => (evI G it env).bind fun items env1 => (compL (fun x e => match wipeE e own with
      | none => .bad
      | some e0 => match bindT tg x e0 with
        | none => .bad
        | some e1 => (evT G ifs e1).bind fun k e2 => if k then (evO G elt e2).bind fun d e3 => .ok (some d) e3 else .ok none e2) items (lk it env1)).calm.bind fun ys env3 =>
    match wipeE (lk it env1) own, wipeE env3 own with
    | some _, some e4 => if ys.length ≤ sizeLine then .ok (.ls ys) (unlk it (backE (lk it env1) e4 own)) else .bad
    | _, _ => .bad
  | .olist e, env => (evE G e env).bind fun d env1 => match d with
    | .list ds => .ok (.ls (ds.map .fz)) env1
    | .tuple ds => .ok (.ls (ds.map .fz)) env1
    | _ => .bad
  | .orange a, env => (evE G a env).bind fun x env1 => match intD x with
    | some j => match rng2D 0 j with
      | some ds => if ds.length ≤ 16777216 then .ok (.ls (ds.map .fz)) env1 else .bad
      | none => .bad
    | none => .bad
  | .odk kvs, env => (evKV G kvs env).bind fun kts env1 => .ok (.dk (kts.foldl (fun acc kv => putA acc kv.1 kv.2) [])) env1
  | .odn, env => .ok (.dn []) env
  | .call f args, env => match G.fn f with
    | none => .bad
    | some F => (evA G args env).bind fun as env1 => callF (some F) as env1
  | .meth l c m args, env => match G.me c m with
    | none => .bad
    | some F => (evL G l env).bind fun q env1 => if (late q args && isIns env1 q c m) = false then .bad else (evA G args env1).bind fun as env2 => if ((AV.pth (rwF F) q.1 q.2).tree env2).isSome then callF (some F) (.pth (rwF F) q.1 q.2 :: as) env2 else .bad
  | .methT o c m args, env => match G.me c m with
    | none => .bad
    | some F => (evO G o env).bind fun t env1 => if isInsT t c m = false then .bad else (evA G args env1).bind fun as env2 => match selfF F with
      | none => .bad
      | some F' => callF (some F') (.val t :: as) env2
  | .make c args, env => match makeF G c with
    | none => .bad
    | some F => (evA G args env).bind fun as env1 => callF (some F) as env1
  | _, _ => .bad
def evOs (G : Gl) : E → Env → Res (List T)
  | .nil, env => .ok [] env
  | .cons a r, env => (evO G a env).bind fun d env1 => (evOs G r env1).bind fun ds env2 => .ok (d :: ds) env2
  | _, _ => .bad
def evKV (G : Gl) : E → Env → Res (List (Key × T))
  | .nil, env => .ok [] env
  | .cons (.okv k o) r, env => (evO G o env).bind fun d env1 => (evKV G r env1).bind fun ds env2 => .ok ((k, d) :: ds) env2
  | _, _ => .bad
end
end Mp

end
section
set_option Elab.async false
set_option linter.all false
set_option maxRecDepth 100000
set_option autoImplicit false
/-! MiniPy, part D: statements. -/
namespace Mp
open PySem PySem.Spec PyProof.Rows L2

/-- turns of a while at most -/
def FUEL : Nat := 1000000
def killS (i : Nat) (env : Env) : Env := env
/-! ### except clauses -/
mutual
def evHx (G : Gl) (x : Exn) : Hx → Option PyData
  | .con d => some d
  | .fld f => match G.exn x.c with
    | some fl => if f ∈ fl then lookA x.fs f else none
    | none => none
  | .isi c => (G.hit x.c c).map .bool
  | .tup es => match evHxs G x es with
    | some ds => if ds.length ≤ sizeLine then some (.tuple ds) else none
    | none => none
  | .and a b => match evHx G x a with
    | some (.bool true) => evHx G x b
    | some (.bool false) => some (.bool false)
    | _ => none
  | .or a b => match evHx G x a with
    | some (.bool false) => evHx G x b
    | some (.bool true) => some (.bool true)
    | _ => none
  | .not a => match evHx G x a with
    | some (.bool k) => some (.bool (!k))
    | _ => none
  | .one a => evHx G x a
  | _ => none
def evHxs (G : Gl) (x : Exn) : Hx → Option (List PyData)
  | .nil => some []
  | .cons a r => match evHx G x a, evHxs G x r with
    | some d, some ds => some (d :: ds)
    | _, _ => none
  | _ => none
end
def hb : Option PyData → Option Bool
  | some (.bool k) => some k
  | _ => none
def evHs (G : Gl) (x : Exn) : Hs → Option (Option PyData)
  | .fall => some none
  | .ret a => (evHx G x a).map some
  | .ifr c a r => match hb (evHx G x c) with
    | some true => (evHx G x a).map some
    | some false => evHs G x r
    | none => none
def offE : Option Nat → Env → Option Env
  | none, env => some env
  | some i, env => match env[i]? with
    | some .no => some (setV env i .no)
    | some (.own (.fz _)) => some (setV env i .no)
    | _ => none
/-- the clauses' classes are known -/
def hdsOk (G : Gl) : Hds → Bool
  | .nil => true
  | .cons c _ _ r => (G.exn c).isSome && hdsOk G r
def runH (G : Gl) (x : Exn) : Hds → Env → Res Fl
  | .nil, env => .raise x env
  | .cons c i b r, env => match G.hit x.c c with
    | some true => match offE i env, evHs G x b with
      | some env', some (some d) => .ok (.ret (.fz d)) env'
      | some env', some none => .ok .nx env'
      | _, _ => .bad
    | some false => runH G x r env
    | none => .bad

def evB (G : Gl) : E → PyData → Env → Res Unit
  | .tvar i, d, env => .ofO ((setT env i (.fz d)).map fun _ => ()) ((setT env i (.fz d)).getD env)
  | .cons a r, .tuple (d :: ds), env => (evB G a d env).bind fun _ env1 => evB G r (.tuple ds) env1
  | .nil, .tuple [], env => .ok () env
  | .tsub l e, d, env => (evL G l env).bind fun q env1 => if late q e = false then .bad else (evE G e env1).bind fun k env2 => match ownP env2 q.1 q.2, intD k with
    | some (.ls ts), some i => match ixN ts.length i with
      | some j => .ofO ((writeP env2 q.1 q.2 (.ls (ts.set j (.fz d)))).map fun _ => ()) ((writeP env2 q.1 q.2 (.ls (ts.set j (.fz d)))).getD env2)
      | none => .bad
    | _, _ => .bad
  | _, _, _ => .bad

/-- the turn of a for -/
def turnF (b : Env → Res Fl) (tg : E) (x : PyData) (e : Env) : Res Fl := match bindT tg x e with
  | none => .bad
  | some e1 => b e1
def evS (G : Gl) (hit : Str → Str → Bool) : S → Env → Res Fl
  | .skip, env => .ok .nx env
  | .pss, env => .ok .nx env
  | .seq a b, env => (evS G hit a env).bind fun f env1 => match f with
    | .nx => evS G hit b env1
    | .ret t => .ok (.ret t) env1
    | .bk => .ok .bk env1
    | .ct => .ok .ct env1
  | .asg i o, env => (evO G o env).bind fun t env1 => .ofO ((setT env1 i t).map fun _ => Fl.nx) ((setT env1 i t).getD env1)
  | .asgT tg e, env => (evE G e env).bind fun d env1 => .ofO ((bindT tg d env1).map fun _ => Fl.nx) ((bindT tg d env1).getD env1)
  | .par i j a b, env => (evE G a env).bind fun x env1 => (evE G b env1).bind fun y env2 => if i = j then .bad else match setT env2 i (.fz x) with
    | some env3 => .ofO ((setT env3 j (.fz y)).map fun _ => Fl.nx) ((setT env3 j (.fz y)).getD env3)
    | none => .bad
  | .setix l e o, env => (evO G o env).bind fun t env0 => (evL G l env0).bind fun q env1 => if late q e = false then .bad else (evE G e env1).bind fun k env2 => match ownP env2 q.1 q.2, intD k with
    | some (.ls ts), some i => match ixN ts.length i with
      | some j => .ofO ((writeP env2 q.1 q.2 (.ls (ts.set j t))).map fun _ => Fl.nx) ((writeP env2 q.1 q.2 (.ls (ts.set j t))).getD env2)
      | none => .bad
    | _, _ => .bad
  | .setkey l e o, env => (evO G o env).bind fun t env0 => (evL G l env0).bind fun q env1 => if late q e = false then .bad else (evE G e env1).bind fun k env2 => match ownP env2 q.1 q.2, keyOf k with
    | some (.dk kvs), some key => if kvs.length < sizeLine then .ofO ((writeP env2 q.1 q.2 (.dk (putA kvs key t))).map fun _ => Fl.nx) ((writeP env2 q.1 q.2 (.dk (putA kvs key t))).getD env2) else .bad
    | _, _ => .bad
  | .setnk l e o, env => (evO G o env).bind fun t env0 => (evL G l env0).bind fun q env1 => if late q e = false then .bad else (evE G e env1).bind fun k env2 => match ownP env2 q.1 q.2, nkOf k with
    | some (.dn kvs), some key => if kvs.length < sizeLine then .ofO ((writeP env2 q.1 q.2 (.dn (putA kvs key t))).map fun _ => Fl.nx) ((writeP env2 q.1 q.2 (.dn (putA kvs key t))).getD env2) else .bad
    | _, _ => .bad
  | .setfld l f o, env => (evO G o env).bind fun t env0 => (evL G l env0).bind fun q env1 => match ownP env1 q.1 q.2 with
    | some (.ins c fs) => if (decide (fs.length < 1000) && G.fld c f) = true then .ofO ((writeP env1 q.1 q.2 (.ins c (putA fs f t))).map fun _ => Fl.nx) ((writeP env1 q.1 q.2 (.ins c (putA fs f t))).getD env1) else .bad
    | _ => .bad
  | .nick i l, env => (evL G l env).bind fun q env1 => match env1[i]? with
    | some (.ro _) => .bad
    | some _ => if q.1 = i ∨ noNk q.2 = false then .bad else .ok .nx (setV env1 i (.al q.1 q.2))
    | none => .bad
  | .ex e, env => (evE G e env).bind fun _ env1 => .ok .nx env1
  | .ret o, env => (evO G o env).bind fun t env1 => .ok (.ret t) env1
  | .retN, env => .ok (.ret (.fz .none)) env
  | .iff c a b, env => (evT G c env).bind fun k env1 => if k then evS G hit a env1 else evS G hit b env1
  | .whil c b, env => whileL (evT G c) (evS G hit b) FUEL env
  | .fo tg it b, env => (evI G it env).bind fun items env1 => match forL (turnF (evS G hit b) tg) items (lk it env1) with
    | .ok f env2 => .ok f (unlk it env2)
    | .raise x env2 => .raise x (unlk it env2)
    | .bad => .bad
  | .brk, env => .ok .bk env
  | .cont, env => .ok .ct env
  | .raise c es, env => match G.exn c with
    | some fl => (evEs G es env).bind fun ds env1 => if ds.length = fl.length then .raise ⟨c, (fl.zip ds).reverse⟩ env1 else .bad
    | none => .bad
  | .tryx b h, env => if hdsOk G h = false then .bad else match evS G hit b env with
    | .ok f env1 => .ok f env1
    | .raise x env1 => runH G x h env1
    | .bad => .bad
  | _, _ => .bad
end Mp

end
section
set_option Elab.async false
set_option linter.all false
set_option maxRecDepth 100000
set_option autoImplicit false
/-! MiniPy, part E: places in trees over the heap. -/
namespace Mp
open PySem PySem.Spec PyProof.Rows L2

/-! ### tables -/
section
variable {κ α β : Type} [DecidableEq κ]
def posA : List (κ × α) → κ → Option Nat
  | [], _ => none
  | (k, _) :: r, j => if k = j then some 0 else (posA r j).map (· + 1)
theorem lookA_pos : ∀ (l : List (κ × α)) (k : κ), lookA l k = (posA l k).bind fun j => (l[j]?).map (·.2)
  | [], _ => rfl
  | (a, v) :: r, k => by
    simp only [lookA, posA]
    split
    · rfl
    · rw [lookA_pos r k]
      cases posA r k <;> simp
theorem posA_keys : ∀ {l : List (κ × α)} {l' : List (κ × β)} (k : κ), l.map (·.1) = l'.map (·.1) → posA l k = posA l' k
  | [], [], _, _ => rfl
  | [], _ :: _, _, h => by simp at h
  | _ :: _, [], _, h => by simp at h
  | (a, v) :: r, (b, w) :: r', k, h => by
    simp only [List.map_cons, List.cons.injEq] at h
    obtain ⟨h1, h2⟩ := h
    simp only [posA]
    rw [posA_keys k h2]
    have h1' : a = b := h1
    rw [h1']
theorem posA_lt : ∀ {l : List (κ × α)} {k : κ} {j : Nat}, posA l k = some j → ∃ v, l[j]? = some (k, v)
  | [], _, _, h => by simp [posA] at h
  | (a, v) :: r, k, j, h => by
    simp only [posA] at h
    split at h
    · rename_i e
      cases h
      subst e
      exact ⟨v, rfl⟩
    · cases q : posA r k with
      | none => rw [q] at h; simp at h
      | some i =>
        rw [q] at h
        simp only [Option.map_some, Option.some.injEq] at h
        subst h
        obtain ⟨w, e⟩ := posA_lt q
        exact ⟨w, by simpa using e⟩
theorem putA_pos : ∀ {l : List (κ × α)} {k : κ} {j : Nat} (x : α), posA l k = some j → (putA l k x).map (·.2) = (l.map (·.2)).set j x ∧ (putA l k x).map (·.1) = l.map (·.1)
  | [], _, _, _, h => by simp [posA] at h
  | (a, v) :: r, k, j, x, h => by
    simp only [posA] at h
    simp only [putA]
    split at h
    · rename_i e
      cases h
      rw [if_pos e]
      subst e
      exact ⟨rfl, rfl⟩
    · rename_i e
      cases q : posA r k with
      | none => rw [q] at h; simp at h
      | some i =>
        rw [q] at h
        simp only [Option.map_some, Option.some.injEq] at h
        subst h
        obtain ⟨e1, e2⟩ := putA_pos (l := r) x q
        rw [if_neg e]
        simp only [List.map_cons, List.set_cons_succ, e1, e2, and_self]
theorem putA_none : ∀ {l : List (κ × α)} {k : κ} (x : α), posA l k = none → putA l k x = l ++ [(k, x)]
  | [], _, _, _ => rfl
  | (a, v) :: r, k, x, h => by
    simp only [posA] at h
    split at h
    · cases h
    · rename_i e
      simp only [putA, if_neg e]
      rw [putA_none x (by simpa using h)]
      rfl
theorem lookA_none {l : List (κ × α)} {k : κ} : lookA l k = none ↔ posA l k = none := by
  rw [lookA_pos]
  cases q : posA l k with
  | none => simp
  | some j =>
    obtain ⟨v, e⟩ := posA_lt q
    simp [e]
theorem lookA_val : ∀ (l : List (κ × V)) (k : κ), lookA l k = valV l k
  | [], _ => rfl
  | (a, v) :: r, k => by
    simp only [lookA]
    split
    · rename_i e
      rw [valV_pos (p := (a, v)) e]
    · rename_i e
      rw [valV_neg (p := (a, v)) e]
      exact lookA_val r k
theorem putA_putK (l : List (κ × V)) (k : κ) (x : V) (nd : (l.map (·.1)).Nodup) : putA l k x = putK l k x := by
  unfold putK
  have key : ∀ l : List (κ × V), (l.any fun kv => decide (kv.1 = k)) = (posA l k).isSome := fun l => by
    induction l with
    | nil => rfl
    | cons p r ih =>
      simp only [List.any_cons, ih, posA]
      by_cases e : p.1 = k <;> simp [e]
  have same : ∀ l : List (κ × V), posA l k = none → l.map (fun kv => if kv.1 = k then (kv.1, x) else kv) = l := fun l h => by
    induction l with
    | nil => rfl
    | cons p r ih =>
      simp only [posA] at h
      split at h
      · cases h
      · rename_i e
        rw [List.map_cons, if_neg e, ih (by simpa using h)]
  rw [key]
  cases q : posA l k with
  | none => exact putA_none x q
  | some j =>
    simp only [Option.isSome_some, if_true]
    clear key
    revert nd
    induction l generalizing j with
    | nil => simp [posA] at q
    | cons p r ih =>
      intro nd
      simp only [posA] at q
      simp only [putA, List.map_cons]
      split at q
      · rename_i e
        rw [if_pos e, if_pos e]
        have hn : posA r k = none := by
          cases z : posA r k with
          | none => rfl
          | some i =>
            obtain ⟨w, ew⟩ := posA_lt z
            have : k ∈ r.map (·.1) := List.mem_map.mpr ⟨(k, w), List.mem_of_getElem? ew, rfl⟩
            rw [List.map_cons, List.nodup_cons, e] at nd
            exact absurd this nd.1
        rw [same r hn]
      · rename_i e
        rw [if_neg e, if_neg e]
        cases z : posA r k with
        | none => rw [z] at q; simp at q
        | some i =>
          rw [ih i z (List.nodup_cons.mp nd).2]
end
theorem set_same {α : Type} : ∀ {l : List α} {k : Nat} {x : α}, l[k]? = some x → l.set k x = l
  | [], _, _, h => by simp at h
  | y :: r, 0, x, h => by
    have e : y = x := by simpa using h
    rw [e]
    rfl
  | y :: r, k + 1, x, h => by
    rw [List.set_cons_succ, set_same (by simpa using h)]

section
variable {C : Ct} {rd : Bool} {H H' Z Z' : Hp}
/-- one tree out of a list of trees, and another one in its place -/
theorem OwnL.at : ∀ {vs : List V} {ts : List T} {U : FS} {k : Nat} {t : T}, OwnL C rd H Z vs ts U → ts[k]? = some t → ∃ v U1, vs[k]? = some v ∧ Own C rd H Z v t U1 ∧ (∀ b, U1 b → U b) ∧
    ∀ (H' Z' : Hp) (v2 : V) (t2 : T) (U2 : FS), Same Z Z' → (∀ b o, U b → ¬ U1 b → H b = some o → H' b = some o) → Own C rd H' Z' v2 t2 U2 → (∀ b, U2 b → U b → U1 b) →
      OwnL C rd H' Z' (vs.set k v2) (ts.set k t2) (fun b => (U b ∧ ¬ U1 b) ∨ U2 b)
  | _, _, _, _, _, .nil _, h => by simp at h
  | _, _, U, 0, t, .cons (v := v) (S := S) (S' := S') h1 h2 h3 h4, h => by
    have e := Option.some.inj h
    subst e
    refine ⟨v, S, rfl, h1, fun b x => (h4 b).mpr (.inl x), fun H' Z' v2 t2 U2 zz k o d => ?_⟩
    refine .cons o (h2.keep zz fun b x u e => k b u ((h4 b).mpr (.inr x)) (fun y => h3 b y x) e) (fun b x y => h3 b (d b x ((h4 b).mpr (.inr y))) y) fun b => ?_
    constructor
    · rintro (⟨x, y⟩ | x)
      · rcases (h4 b).mp x with z | z
        · exact absurd z y
        · exact .inr z
      · exact .inl x
    · rintro (x | x)
      · exact .inr x
      · exact .inl ⟨(h4 b).mpr (.inr x), fun y => h3 b y x⟩
  | _, _, U, k + 1, t, .cons (v := v) (S := S) (S' := S') h1 h2 h3 h4, h => by
    obtain ⟨v1, U1, e1, o1, s1, f⟩ := OwnL.at (k := k) (t := t) h2 (by simpa using h)
    refine ⟨v1, U1, by simpa using e1, o1, fun b x => (h4 b).mpr (.inr (s1 b x)), fun H' Z' v2 t2 U2 zz kp o d => ?_⟩
    have r := f H' Z' v2 t2 U2 zz (fun b u x n e => kp b u ((h4 b).mpr (.inr x)) n e) o fun b x y => d b x ((h4 b).mpr (.inr y))
    refine .cons (h1.keep zz fun b x u e => kp b u ((h4 b).mpr (.inl x)) (fun y => h3 b x (s1 b y)) e) r (fun b x y => ?_) fun b => ?_
    · rcases y with ⟨y, _⟩ | y
      · exact h3 b x y
      · exact h3 b x (s1 b (d b y ((h4 b).mpr (.inl x))))
    · constructor
      · rintro (⟨x, y⟩ | x)
        · rcases (h4 b).mp x with z | z
          · exact .inl z
          · exact .inr (.inl ⟨z, y⟩)
        · exact .inr (.inr x)
      · rintro (x | ⟨x, y⟩ | x)
        · exact .inl ⟨(h4 b).mpr (.inl x), fun y => h3 b x (s1 b y)⟩
        · exact .inl ⟨(h4 b).mpr (.inr x), y⟩
        · exact .inr x
theorem OwnL.get {vs : List V} {ts : List T} {U : FS} {k : Nat} {t : T} (h : OwnL C rd H Z vs ts U) (e : ts[k]? = some t) : ∃ v U1, vs[k]? = some v ∧ Own C rd H Z v t U1 ∧ (∀ b, U1 b → U b) := by
  obtain ⟨v, U1, a, b, c, _⟩ := h.at e
  exact ⟨v, U1, a, b, c⟩
theorem OwnL.app : ∀ {vs ws : List V} {ts us : List T} {U U' W : FS}, OwnL C rd H Z vs ts U → OwnL C rd H Z ws us U' → (∀ b, U b → ¬ U' b) → (∀ b, W b ↔ U b ∨ U' b) → OwnL C rd H Z (vs ++ ws) (ts ++ us) W
  | _, _, _, _, U, U', W, .nil h, q, _, e => q.ext fun b => by
    rw [e b]
    exact ⟨fun x => x.elim (fun y => absurd y (h b)) id, .inr⟩
  | _, _, _, _, U, U', W, .cons (S := S) (S' := S') h1 h2 h3 h4, q, d, e =>
    .cons (S' := fun b => S' b ∨ U' b) h1 (OwnL.app h2 q (fun b x => d b ((h4 b).mpr (.inr x))) fun b => Iff.rfl) (fun b x y => y.elim (h3 b x) (d b ((h4 b).mpr (.inl x)))) fun b => by
      rw [e b, h4 b, or_assoc]
theorem OwnL.one {v : V} {t : T} {U : FS} (h : Own C rd H Z v t U) : OwnL C rd H Z [v] [t] U :=
  .cons (S' := fun _ => False) h (.nil fun _ x => x) (fun _ _ x => x) fun b => by simp
theorem OwnL.mem : ∀ {vs : List V} {ts : List T} {U : FS} {k : Nat} {v : V}, OwnL C rd H Z vs ts U → vs[k]? = some v → ∃ t U1, ts[k]? = some t ∧ Own C rd H Z v t U1
  | _, _, _, _, _, .nil _, h => by simp at h
  | _, _, _, 0, v, .cons h1 _ _ _, h => by
    have e := Option.some.inj h
    subst e
    exact ⟨_, _, rfl, h1⟩
  | _, _, _, k + 1, v, .cons _ h2 _ _, h => by
    obtain ⟨t, U1, a, b⟩ := OwnL.mem (k := k) (v := v) h2 (by simpa using h)
    exact ⟨t, U1, by simpa using a, b⟩
/-- a tree taken out -/
theorem OwnL.cut : ∀ {vs : List V} {ts : List T} {U : FS} (k : Nat), OwnL C rd H Z vs ts U → ∃ U', OwnL C rd H Z (vs.eraseIdx k) (ts.eraseIdx k) U' ∧ ∀ b, U' b → U b
  | _, _, _, _, .nil h => ⟨_, .nil h, fun _ x => x⟩
  | _, _, _, 0, .cons (S' := S') _ h2 _ h4 => ⟨S', h2, fun b x => (h4 b).mpr (.inr x)⟩
  | _, _, _, k + 1, .cons (S := S) h1 h2 h3 h4 => by
    obtain ⟨U', o, s⟩ := OwnL.cut k h2
    exact ⟨fun b => S b ∨ U' b, .cons h1 o (fun b x y => h3 b x (s b y)) fun b => Iff.rfl, fun b x => (h4 b).mpr (x.imp id (s b))⟩
theorem OwnL.rev : ∀ {vs : List V} {ts : List T} {U : FS}, OwnL C rd H Z vs ts U → OwnL C rd H Z vs.reverse ts.reverse U
  | _, _, _, .nil h => .nil h
  | _, _, U, .cons (v := v) (t := t) (vs := vs) (ts := ts) (S := S) (S' := S') h1 h2 h3 h4 => by
    rw [List.reverse_cons, List.reverse_cons]
    exact (OwnL.rev h2).app (OwnL.one h1) (fun b x y => h3 b y x) fun b => by rw [h4 b]; exact or_comm
end

/-! ### ways over the heap -/
inductive PathAt (H : Hp) : V → List Sg → V → Prop
  | nil (v : V) : PathAt H v [] v
  | ix {a : Addr} {vs : List V} {k : Nat} {v1 v : V} {p : List Sg} : Rd H a (.lst vs) → vs[k]? = some v1 → PathAt H v1 p v → PathAt H (.ref a) (.ix k :: p) v
  | key {a : Addr} {kvs : List (Key × V)} {k : Key} {v1 v : V} {p : List Sg} : Rd H a (.dK kvs) → lookA kvs k = some v1 → PathAt H v1 p v → PathAt H (.ref a) (.key k :: p) v
  | fld {a A dx : Addr} {fs : List (Str × V)} {f : Str} {v1 v : V} {p : List Sg} : H a = some (.ins A dx fs) → lookA fs f = some v1 → PathAt H v1 p v → PathAt H (.ref a) (.fld f :: p) v
theorem rd_det {H : Hp} {a : Addr} {u u' : HO} (h : Rd H a u) (h' : Rd H a u') (n : ∀ o w, u ≠ .frz o w) (n' : ∀ o w, u' ≠ .frz o w) : u = u' := by
  rcases h with h | ⟨o, h⟩ <;> rcases h' with h' | ⟨o', h'⟩
  · rw [h] at h'; exact Option.some.inj h'
  · rw [h] at h'; exact absurd (Option.some.inj h') (n o' u')
  · rw [h] at h'; exact absurd (Option.some.inj h').symm (n' o u)
  · rw [h] at h'
    have e := Option.some.inj h'
    injection e
theorem PathAt.det {H : Hp} : ∀ {v : V} {p : List Sg} {w w' : V}, PathAt H v p w → PathAt H v p w' → w = w'
  | _, _, _, _, .nil _, .nil _ => rfl
  | _, _, _, _, .ix h e t, .ix h' e' t' => by
    have q := rd_det h h' (fun _ _ z => nomatch z) (fun _ _ z => nomatch z)
    injection q with q
    subst q
    rw [e] at e'
    have e2 := Option.some.inj e'
    subst e2
    exact PathAt.det t t'
  | _, _, _, _, .key h e t, .key h' e' t' => by
    have q := rd_det h h' (fun _ _ z => nomatch z) (fun _ _ z => nomatch z)
    injection q with q
    subst q
    rw [e] at e'
    have e2 := Option.some.inj e'
    subst e2
    exact PathAt.det t t'
  | _, _, _, _, .fld h e t, .fld h' e' t' => by
    rw [h] at h'
    have q := Option.some.inj h'
    injection q with _ _ q
    subst q
    rw [e] at e'
    have e2 := Option.some.inj e'
    subst e2
    exact PathAt.det t t'
theorem PathAt.snoc {H : Hp} {s : Sg} {w : V} : ∀ {v : V} {p : List Sg} {u : V}, PathAt H v p u → PathAt H u [s] w → PathAt H v (p ++ [s]) w
  | _, _, _, .nil _, h => h
  | _, _, _, .ix a b t, h => .ix a b (PathAt.snoc t h)
  | _, _, _, .key a b t, h => .key a b (PathAt.snoc t h)
  | _, _, _, .fld a b t, h => .fld a b (PathAt.snoc t h)
theorem PathAt.same {H H' : Hp} (e : Same H H') : ∀ {v : V} {p : List Sg} {u : V}, PathAt H v p u → PathAt H' v p u
  | _, _, _, .nil _ => .nil _
  | _, _, _, .ix a b t => .ix (rd_same e a) b (PathAt.same e t)
  | _, _, _, .key a b t => .key (rd_same e a) b (PathAt.same e t)
  | _, _, _, .fld a b t => .fld (e _ _ a) b (PathAt.same e t)
/-- the place p of the tree t: what stands there, and that another tree may be put there -/
structure Lens (C : Ct) (rd : Bool) (H Z : Hp) (v : V) (t : T) (U : FS) (p : List Sg) (v1 : V) (t1 : T) (U1 : FS) : Prop where
  own : Own C rd H Z v1 t1 U1
  sub : ∀ b, U1 b → U b
  put : ∀ (H' Z' : Hp) (t2 : T) (U2 : FS), Same Z Z' → (∀ b o, U b → ¬ U1 b → H b = some o → H' b = some o) → Own C rd H' Z' v1 t2 U2 → (∀ b, U2 b → U b → U1 b) →
    ∃ t', setP t p t2 = some t' ∧ Own C rd H' Z' v t' (fun b => (U b ∧ ¬ U1 b) ∨ U2 b)
section
variable {C : Ct} {rd : Bool} {H H' Z Z' : Hp}
theorem Lens.nil {v : V} {t : T} {U : FS} (h : Own C rd H Z v t U) : Lens C rd H Z v t U [] v t U :=
  ⟨h, fun _ x => x, fun H' Z' t2 U2 _ _ o d => ⟨t2, rfl, o.ext fun b => ⟨fun x => x.elim (fun y => absurd y.1 y.2) id, .inr⟩⟩⟩
/-- one step down, by what one step does -/
theorem Lens.step {v v0 v1 : V} {t t0 t1 : T} {U U0 U1 : FS} {s : Sg} {p : List Sg} (hs : getS t s = some t0)
    (a : Lens C rd H Z v t U [s] v0 t0 U0) (b : Lens C rd H Z v0 t0 U0 p v1 t1 U1) : Lens C rd H Z v t U (s :: p) v1 t1 U1 := by
  refine ⟨b.own, fun x q => a.sub x (b.sub x q), fun H' Z' t2 U2 zz k o d => ?_⟩
  obtain ⟨t3, e3, o3⟩ := b.put H' Z' t2 U2 zz (fun x u h n e => k x u (a.sub x h) n e) o fun x h h' => d x h (a.sub x h')
  obtain ⟨t4, e4, o4⟩ := a.put H' Z' t3 _ zz (fun x u h n e => k x u h (fun y => n (b.sub x y)) e) o3 fun x h h' => by
    rcases h with h | h
    · exact h.1
    · exact b.sub x (d x h h')
  refine ⟨t4, ?_, o4.ext fun x => ?_⟩
  · simp only [setP, hs, Option.some.injEq] at e4 ⊢
    simp only [e3]
    exact e4
  · constructor
    · rintro (⟨h, n⟩ | h)
      · by_cases q : U0 x
        · exact .inr (.inl ⟨q, n⟩)
        · exact .inl ⟨h, q⟩
      · exact .inr (.inr h)
    · rintro (⟨h, n⟩ | ⟨h, n⟩ | h)
      · exact .inl ⟨h, fun y => n (b.sub x y)⟩
      · exact .inl ⟨a.sub x h, n⟩
      · exact .inr h
/-- one step -/
theorem Own.one {v : V} {t : T} {U : FS} {s : Sg} {t1 : T} (h : Own C rd H Z v t U) (e : getS t s = some t1) : ∃ v1 U1, Lens C rd H Z v t U [s] v1 t1 U1 ∧ (noNk [s] = true → PathAt H v [s] v1) := by
  cases h with
  | fz h q => cases s <;> simp [getS] at e
  | @ls a vs ts S U h1 h2 h3 h4 =>
    cases s with
    | ix k =>
      simp only [getS] at e
      obtain ⟨v1, U1, e1, o1, s1, f⟩ := h2.at e
      refine ⟨v1, U1, ⟨o1, fun b x => (h4 b).mpr (.inr (s1 b x)), fun H' Z' t2 U2 zz kp o d => ?_⟩, fun _ => .ix h1.rd e1 (.nil _)⟩
      have r := f H' Z' v1 t2 U2 zz (fun b u x n q => kp b u ((h4 b).mpr (.inr x)) n q) o fun b x y => d b x ((h4 b).mpr (.inr y))
      rw [set_same e1] at r
      have na : ¬ U1 a := fun y => h3 (s1 a y)
      refine ⟨.ls (ts.set k t2), ?_, .ls (h1.keep fun u q => kp a u ((h4 a).mpr (.inl rfl)) na q) r (fun y => ?_) fun b => ?_⟩
      · have lt : k < ts.length := (List.getElem?_eq_some_iff.mp e).1
        simp [setP, getS, setS, e, lt]
      · rcases y with ⟨y, _⟩ | y
        · exact h3 y
        · exact na (d a y ((h4 a).mpr (.inl rfl)))
      · constructor
        · rintro (⟨x, y⟩ | x)
          · rcases (h4 b).mp x with z | z
            · exact .inl z
            · exact .inr (.inl ⟨z, y⟩)
          · exact .inr (.inr x)
        · rintro (x | ⟨x, y⟩ | x)
          · subst x; exact .inl ⟨(h4 _).mpr (.inl rfl), na⟩
          · exact .inl ⟨(h4 b).mpr (.inr x), y⟩
          · exact .inr x
    | key _ => simp [getS] at e
    | nk _ => simp [getS] at e
    | fld _ => simp [getS] at e
  | @dk a kvs kts S U h1 hk h2 h3 h4 =>
    cases s with
    | key k =>
      simp only [getS] at e
      rw [lookA_pos] at e
      cases q : posA kts k with
      | none => rw [q] at e; simp at e
      | some j =>
        rw [q] at e
        simp only [Option.bind_some] at e
        have q' : posA kvs k = some j := (posA_keys k hk).trans q
        have e0 : (kts.map (·.2))[j]? = some t1 := by rw [List.getElem?_map]; exact e
        obtain ⟨v1, U1, e1, o1, s1, f⟩ := h2.at e0
        have e1' : lookA kvs k = some v1 := by
          rw [lookA_pos, q']
          rw [List.getElem?_map] at e1
          exact e1
        refine ⟨v1, U1, ⟨o1, fun b x => (h4 b).mpr (.inr (s1 b x)), fun H' Z' t2 U2 zz kp o d => ?_⟩, fun _ => .key h1.rd e1' (.nil _)⟩
        have r := f H' Z' v1 t2 U2 zz (fun b u x n q => kp b u ((h4 b).mpr (.inr x)) n q) o fun b x y => d b x ((h4 b).mpr (.inr y))
        rw [set_same e1] at r
        have na : ¬ U1 a := fun y => h3 (s1 a y)
        obtain ⟨p1, p2⟩ := putA_pos t2 q
        rw [← p1] at r
        refine ⟨.dk (putA kts k t2), ?_, .dk (h1.keep fun u q => kp a u ((h4 a).mpr (.inl rfl)) na q) (hk.trans p2.symm) r (fun y => ?_) fun b => ?_⟩
        · have l : lookA kts k = some t1 := by rw [lookA_pos, q]; exact e
          simp [setP, getS, setS, l]
        · rcases y with ⟨y, _⟩ | y
          · exact h3 y
          · exact na (d a y ((h4 a).mpr (.inl rfl)))
        · constructor
          · rintro (⟨x, y⟩ | x)
            · rcases (h4 b).mp x with z | z
              · exact .inl z
              · exact .inr (.inl ⟨z, y⟩)
            · exact .inr (.inr x)
          · rintro (x | ⟨x, y⟩ | x)
            · subst x; exact .inl ⟨(h4 _).mpr (.inl rfl), na⟩
            · exact .inl ⟨(h4 b).mpr (.inr x), y⟩
            · exact .inr x
    | ix _ => simp [getS] at e
    | nk _ => simp [getS] at e
    | fld _ => simp [getS] at e
  | @dn a xs kts S U h1 hk hz h2 h3 h4 =>
    cases s with
    | nk k =>
      simp only [getS] at e
      rw [lookA_pos] at e
      cases q : posA kts k with
      | none => rw [q] at e; simp at e
      | some j =>
        rw [q] at e
        simp only [Option.bind_some] at e
        have e0 : (kts.map (·.2))[j]? = some t1 := by rw [List.getElem?_map]; exact e
        obtain ⟨v1, U1, e1, o1, s1, f⟩ := h2.at e0
        refine ⟨v1, U1, ⟨o1, fun b x => (h4 b).mpr (.inr (s1 b x)), fun H' Z' t2 U2 zz kp o d => ?_⟩, fun z => by simp [noNk] at z⟩
        have r := f H' Z' v1 t2 U2 zz (fun b u x n q => kp b u ((h4 b).mpr (.inr x)) n q) o fun b x y => d b x ((h4 b).mpr (.inr y))
        rw [set_same e1] at r
        have na : ¬ U1 a := fun y => h3 (s1 a y)
        obtain ⟨p1, p2⟩ := putA_pos t2 q
        rw [← p1] at r
        refine ⟨.dn (putA kts k t2), ?_, .dn (h1.keep fun u q => kp a u ((h4 a).mpr (.inl rfl)) na q) (hk.trans p2.symm) (fun x hx => ⟨dp_same zz (hz x hx).1, (hz x hx).2⟩) r (fun y => ?_) fun b => ?_⟩
        · have l : lookA kts k = some t1 := by rw [lookA_pos, q]; exact e
          simp [setP, getS, setS, l]
        · rcases y with ⟨y, _⟩ | y
          · exact h3 y
          · exact na (d a y ((h4 a).mpr (.inl rfl)))
        · constructor
          · rintro (⟨x, y⟩ | x)
            · rcases (h4 b).mp x with z | z
              · exact .inl z
              · exact .inr (.inl ⟨z, y⟩)
            · exact .inr (.inr x)
          · rintro (x | ⟨x, y⟩ | x)
            · subst x; exact .inl ⟨(h4 _).mpr (.inl rfl), na⟩
            · exact .inl ⟨(h4 b).mpr (.inr x), y⟩
            · exact .inr x
    | ix _ => simp [getS] at e
    | key _ => simp [getS] at e
    | fld _ => simp [getS] at e
  | @ins a dx A c fs fts S U hm h1 h0 hk h2 h3 h5 h4 =>
    cases s with
    | fld k =>
      simp only [getS] at e
      rw [lookA_pos] at e
      cases q : posA fts k with
      | none => rw [q] at e; simp at e
      | some j =>
        rw [q] at e
        simp only [Option.bind_some] at e
        have q' : posA fs k = some j := (posA_keys k hk).trans q
        have e0 : (fts.map (·.2))[j]? = some t1 := by rw [List.getElem?_map]; exact e
        obtain ⟨v1, U1, e1, o1, s1, f⟩ := h2.at e0
        have e1' : lookA fs k = some v1 := by
          rw [lookA_pos, q']
          rw [List.getElem?_map] at e1
          exact e1
        refine ⟨v1, U1, ⟨o1, fun b x => (h4 b).mpr (.inr (.inr (s1 b x))), fun H' Z' t2 U2 zz kp o d => ?_⟩, fun _ => .fld h1 e1' (.nil _)⟩
        have r := f H' Z' v1 t2 U2 zz (fun b u x n q => kp b u ((h4 b).mpr (.inr (.inr x))) n q) o fun b x y => d b x ((h4 b).mpr (.inr (.inr y)))
        rw [set_same e1] at r
        have na : ¬ U1 a := fun y => h3 (s1 a y)
        have nd : ¬ U1 dx := fun y => h5 (s1 dx y)
        obtain ⟨p1, p2⟩ := putA_pos t2 q
        rw [← p1] at r
        refine ⟨.ins c (putA fts k t2), ?_, .ins hm (kp a _ ((h4 a).mpr (.inl rfl)) na h1) (kp dx _ ((h4 dx).mpr (.inr (.inl rfl))) nd h0) (hk.trans p2.symm) r (fun y => ?_) (fun y => ?_) fun b => ?_⟩
        · have l : lookA fts k = some t1 := by rw [lookA_pos, q]; exact e
          simp [setP, getS, setS, l]
        · rcases y with ⟨y, _⟩ | y
          · exact h3 y
          · exact na (d a y ((h4 a).mpr (.inl rfl)))
        · rcases y with ⟨y, _⟩ | y
          · exact h5 y
          · exact nd (d dx y ((h4 dx).mpr (.inr (.inl rfl))))
        · constructor
          · rintro (⟨x, y⟩ | x)
            · rcases (h4 b).mp x with z | z | z
              · exact .inl z
              · exact .inr (.inl z)
              · exact .inr (.inr (.inl ⟨z, y⟩))
            · exact .inr (.inr (.inr x))
          · rintro (x | x | ⟨x, y⟩ | x)
            · subst x; exact .inl ⟨(h4 _).mpr (.inl rfl), na⟩
            · subst x; exact .inl ⟨(h4 _).mpr (.inr (.inl rfl)), nd⟩
            · exact .inl ⟨(h4 b).mpr (.inr (.inr x)), y⟩
            · exact .inr x
    | ix _ => simp [getS] at e
    | key _ => simp [getS] at e
    | nk _ => simp [getS] at e
/-- any way down -/
theorem Own.sub : ∀ {p : List Sg} {v : V} {t : T} {U : FS} {t1 : T}, Own C rd H Z v t U → getP t p = some t1 → ∃ v1 U1, Lens C rd H Z v t U p v1 t1 U1 ∧ (noNk p = true → PathAt H v p v1)
  | [], v, t, U, t1, h, e => by
    simp only [getP, Option.some.injEq] at e
    subst e
    exact ⟨v, U, Lens.nil h, fun _ => .nil v⟩
  | s :: p, v, t, U, t1, h, e => by
    simp only [getP] at e
    cases q : getS t s with
    | none => rw [q] at e; simp at e
    | some t0 =>
      rw [q] at e
      obtain ⟨v0, U0, L0, P0⟩ := h.one q
      obtain ⟨v1, U1, L1, P1⟩ := Own.sub L0.own e
      refine ⟨v1, U1, L0.step q L1, fun n => ?_⟩
      have n1 : noNk [s] = true := by cases s <;> simp [noNk] at n ⊢
      have n2 : noNk p = true := by cases s <;> simpa [noNk] using n
      have a := P0 n1
      have b := P1 n2
      cases a with
      | ix a1 a2 a3 => cases a3; exact .ix a1 a2 b
      | key a1 a2 a3 => cases a3; exact .key a1 a2 b
      | fld a1 a2 a3 => cases a3; exact .fld a1 a2 b
/-- a further step behind a way -/
theorem Lens.snoc : ∀ {p : List Sg} {v v1 v2 : V} {t t1 t2 : T} {U U1 U2 : FS} {s : Sg}, getP t p = some t1 → Lens C rd H Z v t U p v1 t1 U1 → getS t1 s = some t2 → Lens C rd H Z v1 t1 U1 [s] v2 t2 U2 → Lens C rd H Z v t U (p ++ [s]) v2 t2 U2 := by
  intro p v v1 v2 t t1 t2 U U1 U2 s hg a hs b
  refine ⟨b.own, fun x q => a.sub x (b.sub x q), fun H' Z' u2 W2 zz k o d => ?_⟩
  obtain ⟨t3, e3, o3⟩ := b.put H' Z' u2 W2 zz (fun x u h n e => k x u (a.sub x h) n e) o fun x h h' => d x h (a.sub x h')
  obtain ⟨t4, e4, o4⟩ := a.put H' Z' t3 _ zz (fun x u h n e => k x u h (fun y => n (b.sub x y)) e) o3 fun x h h' => by
    rcases h with h | h
    · exact h.1
    · exact b.sub x (d x h h')
  have gs : ∀ (p : List Sg) (t t4 : T), getP t p = some t1 → setP t p t3 = some t4 → setP t (p ++ [s]) u2 = some t4 := by
    intro p
    induction p with
    | nil =>
      intro t t4 h1 h2
      simp only [getP, Option.some.injEq] at h1
      simp only [setP, Option.some.injEq] at h2
      subst h1
      subst h2
      exact e3
    | cons s' p ih =>
      intro t t4 h1 h2
      simp only [getP] at h1
      simp only [List.cons_append, setP] at h2 ⊢
      cases q : getS t s' with
      | none => rw [q] at h1; simp at h1
      | some u =>
        rw [q] at h1 h2
        simp only at h1 h2 ⊢
        cases q2 : setP u p t3 with
        | none => rw [q2] at h2; simp at h2
        | some u' =>
          rw [q2] at h2
          rw [ih u u' h1 q2]
          exact h2
  refine ⟨t4, gs p t t4 hg e4, o4.ext fun x => ?_⟩
  constructor
  · rintro (⟨h, n⟩ | h)
    · by_cases q : U1 x
      · exact .inr (.inl ⟨q, n⟩)
      · exact .inl ⟨h, q⟩
    · exact .inr (.inr h)
  · rintro (⟨h, n⟩ | ⟨h, n⟩ | h)
    · exact .inl ⟨h, fun y => n (b.sub x y)⟩
    · exact .inl ⟨a.sub x h, n⟩
    · exact .inr h
theorem getP_snoc {s : Sg} {u : T} : ∀ {p : List Sg} {t t1 : T}, getP t p = some t1 → getS t1 s = some u → getP t (p ++ [s]) = some u
  | [], t, t1, h, e => by
    simp only [getP, Option.some.injEq] at h
    subst h
    simp [getP, e]
  | s' :: p, t, t1, h, e => by
    simp only [getP, List.cons_append] at h ⊢
    cases q : getS t s' with
    | none => rw [q] at h; simp at h
    | some w =>
      rw [q] at h
      exact getP_snoc (p := p) h e
/-- it stays while all that was tracked stays -/
theorem Lens.same {v v1 : V} {t t1 : T} {U U1 : FS} {p : List Sg} (a : Lens C rd H Z v t U p v1 t1 U1) (e : Same H H') (z : Same Z Z') : Lens C rd H' Z' v t U p v1 t1 U1 :=
  ⟨a.own.keep z fun b _ o h => e b o h, a.sub, fun H2 Z2 t2 U2 zz k o d => a.put H2 Z2 t2 U2 (z.trans zz) (fun b u x n h => k b u x n (e b u h)) o d⟩
/-- a way lies in the tree's own objects -/
theorem PathAt.own : ∀ {p : List Sg} {v w : V} {t : T} {U : FS}, PathAt H v p w → Own C rd H Z v t U → (getP t p).isSome → (∀ b o, U b → H b = some o → H' b = some o) → PathAt H' v p w
  | [], v, w, t, U, P, _, _, _ => by
    cases P
    exact .nil _
  | s :: p, v, w, t, U, P, O, g, k => by
    simp only [getP] at g
    cases q : getS t s with
    | none => rw [q] at g; simp at g
    | some t0 =>
      rw [q] at g
      cases O with
      | fz h q' => cases s <;> simp [getS] at q
      | @ls a vs ts S U h1 h2 h3 h4 =>
        cases P with
        | ix a1 a2 a3 =>
          have e := rd_det h1.rd a1 (fun _ _ z => nomatch z) (fun _ _ z => nomatch z)
          injection e with e
          subst e
          obtain ⟨v1, U1, e1, o1, s1⟩ := h2.get (by simpa [getS] using q)
          rw [e1] at a2
          have e2 := Option.some.inj a2
          subst e2
          refine .ix ?_ e1 (PathAt.own a3 o1 g fun b o x h => k b o ((h4 b).mpr (.inr (s1 b x))) h)
          rcases a1 with z | ⟨o, z⟩
          · exact .inl (k _ _ ((h4 _).mpr (.inl rfl)) z)
          · exact .inr ⟨o, k _ _ ((h4 _).mpr (.inl rfl)) z⟩
        | key => simp [getS] at q
        | fld => simp [getS] at q
      | @dk a kvs kts S U h1 hk h2 h3 h4 =>
        cases P with
        | key a1 a2 a3 =>
          have e := rd_det h1.rd a1 (fun _ _ z => nomatch z) (fun _ _ z => nomatch z)
          injection e with e
          subst e
          simp only [getS] at q
          rw [lookA_pos] at q a2
          rw [posA_keys _ hk] at a2
          cases j : posA kts _ with
          | none => rw [j] at q; simp at q
          | some j' =>
            rw [j] at q a2
            simp only [Option.bind_some] at q a2
            obtain ⟨v1, U1, e1, o1, s1⟩ := h2.get (k := j') (t := t0) (by rw [List.getElem?_map]; exact q)
            rw [List.getElem?_map] at e1
            rw [e1] at a2
            have e2 := Option.some.inj a2
            subst e2
            refine .key ?_ (by rw [lookA_pos, posA_keys _ hk, j]; exact e1) (PathAt.own a3 o1 g fun b o x h => k b o ((h4 b).mpr (.inr (s1 b x))) h)
            rcases a1 with z | ⟨o, z⟩
            · exact .inl (k _ _ ((h4 _).mpr (.inl rfl)) z)
            · exact .inr ⟨o, k _ _ ((h4 _).mpr (.inl rfl)) z⟩
        | ix => simp [getS] at q
        | fld => simp [getS] at q
      | @dn a xs kts S U h1 hk hz h2 h3 h4 =>
        cases P with
        | key => simp [getS] at q
        | ix => simp [getS] at q
        | fld => simp [getS] at q
      | @ins a dx A c fs fts S U hm h1 h0 hk h2 h3 h5 h4 =>
        cases P with
        | fld a1 a2 a3 =>
          rw [h1] at a1
          have e := Option.some.inj a1
          injection e with _ _ e
          subst e
          simp only [getS] at q
          rw [lookA_pos] at q a2
          rw [posA_keys _ hk] at a2
          cases j : posA fts _ with
          | none => rw [j] at q; simp at q
          | some j' =>
            rw [j] at q a2
            simp only [Option.bind_some] at q a2
            obtain ⟨v1, U1, e1, o1, s1⟩ := h2.get (k := j') (t := t0) (by rw [List.getElem?_map]; exact q)
            rw [List.getElem?_map] at e1
            rw [e1] at a2
            have e2 := Option.some.inj a2
            subst e2
            exact .fld (k _ _ ((h4 _).mpr (.inl rfl)) h1) (by rw [lookA_pos, posA_keys _ hk, j]; exact e1) (PathAt.own a3 o1 g fun b o x h => k b o ((h4 b).mpr (.inr (.inr (s1 b x)))) h)
        | ix => simp [getS] at q
        | key => simp [getS] at q
end
end Mp

end
section
set_option Elab.async false
set_option linter.all false
set_option maxRecDepth 100000
set_option autoImplicit false
/-! MiniPy, part F: names and what they hold. -/
namespace Mp
open PySem PySem.Spec PyProof.Rows L2
abbrev Sto := L2.St

def IsOwn (env : Env) (i : Nat) : Prop := ∃ t, env[i]? = some (.own t)
/-- what the names own -/
def Af (env : Env) (F : Nat → FS) : FS := fun b => ∃ i, IsOwn env i ∧ F i b
def SlotOk (C : Ct) (H Z : Hp) (x : Option V) : Sl → FS → Prop
  | .no, U => ∀ b, ¬ U b
  | .own t, U => ∃ v, x = some v ∧ Own C false H Z v t U
  | .ro t, U => ∃ v, x = some v ∧ Own C true H Z v t U
  | .al _ _, U => (∃ v, x = some v) ∧ ∀ b, ¬ U b
/-- the values σ over the heap H (frozen part Z) are the names' trees env, with the objects F; the values P stay where they are -/
structure Rel (C : Ct) (σ : Sto) (H Z : Hp) (env : Env) (F : Nat → FS) (P : List (Nat × V)) : Prop where
  len : σ.length = env.length
  slot : ∀ (i : Nat) (s : Sl), env[i]? = some s → ∃ x, σ[i]? = some x ∧ SlotOk C H Z x s (F i)
  out : ∀ (i : Nat), env[i]? = none → ∀ b, ¬ F i b
  dj : ∀ i j b, i ≠ j → IsOwn env i → F i b → ¬ F j b
  az : ∀ i b, IsOwn env i → F i b → Z b = none
  sub : Same Z H
  al : ∀ (i r : Nat) (p : List Sg), env[i]? = some (Sl.al r p) → ∃ v w, σ[i]? = some (some v) ∧ σ[r]? = some (some w) ∧ PathAt H w p v ∧ (readP env r p).isSome ∧ noNk p = true
  pr : ∀ q ∈ P, σ[q.1]? = some (some q.2)
/-- objects that stand apart from all names' -/
def Apt (F : Nat → FS) (U : FS) : Prop := ∀ j b, U b → ¬ F j b

section
variable {C : Ct} {σ : Sto} {H H' Z Z' : Hp} {env env' : Env} {F F' : Nat → FS} {P : List (Nat × V)}
theorem Rel.live (R : Rel C σ H Z env F P) {i : Nat} {b : Addr} (h : F i b) : ∃ o, H b = some o := by
  cases e : env[i]? with
  | none => exact absurd h (R.out i e b)
  | some s =>
    obtain ⟨x, _, q⟩ := R.slot i s e
    cases s with
    | no => exact absurd h (q b)
    | own t => obtain ⟨v, _, o⟩ := q; exact o.live b h
    | ro t => obtain ⟨v, _, o⟩ := q; exact o.live b h
    | al r p => exact absurd h (q.2 b)
theorem Rel.rootOwn (R : Rel C σ H Z env F P) {r : Nat} {t : T} (h : ownT env r = some t) : ∃ w, σ[r]? = some (some w) ∧ Own C false H Z w t (F r) ∧ IsOwn env r := by
  unfold ownT at h
  cases e : env[r]? with
  | none => rw [e] at h; simp at h
  | some s =>
    rw [e] at h
    cases s with
    | own t' =>
      simp only [Option.some.injEq] at h
      subst h
      obtain ⟨x, e1, v, rfl, o⟩ := R.slot r _ e
      exact ⟨v, e1, o, _, e⟩
    | no => simp at h
    | ro _ => simp at h
    | al _ _ => simp at h
theorem Rel.rootAny (R : Rel C σ H Z env F P) {r : Nat} {t : T} (h : rootT env r = some t) : ∃ w, σ[r]? = some (some w) ∧ Own C true H Z w t (F r) := by
  unfold rootT at h
  cases e : env[r]? with
  | none => rw [e] at h; simp at h
  | some s =>
    rw [e] at h
    cases s with
    | own t' =>
      simp only [Option.some.injEq] at h
      subst h
      obtain ⟨x, e1, v, rfl, o⟩ := R.slot r _ e
      exact ⟨v, e1, o.toRd⟩
    | ro t' =>
      simp only [Option.some.injEq] at h
      subst h
      obtain ⟨x, e1, v, rfl, o⟩ := R.slot r _ e
      exact ⟨v, e1, o⟩
    | no => simp at h
    | al _ _ => simp at h
/-- the heap grows, nothing of the names' is touched -/
theorem Rel.grow (R : Rel C σ H Z env F P) (e : Same H H') (zz : Same Z Z') (sub : Same Z' H') (nz : ∀ b o, Z' b = some o → Z b = some o ∨ H b = none ∨ ∀ i, IsOwn env i → ¬ F i b) : Rel C σ H' Z' env F P := by
  refine ⟨R.len, fun i s es => ?_, R.out, R.dj, fun i b ho hf => ?_, sub, fun i r p ea => ?_, R.pr⟩
  · obtain ⟨x, e1, q⟩ := R.slot i s es
    refine ⟨x, e1, ?_⟩
    cases s with
    | no => exact q
    | own t => obtain ⟨v, a, o⟩ := q; exact ⟨v, a, o.keep zz fun b _ o h => e b o h⟩
    | ro t => obtain ⟨v, a, o⟩ := q; exact ⟨v, a, o.keep zz fun b _ o h => e b o h⟩
    | al r p => exact q
  · cases q : Z' b with
    | none => rfl
    | some o =>
      rcases nz b o q with h | h | h
      · rw [R.az i b ho hf] at h; cases h
      · obtain ⟨o', h'⟩ := R.live hf
        rw [h'] at h; cases h
      · exact absurd hf (h i ho)
  · obtain ⟨v, w, a, b, c, d⟩ := R.al i r p ea
    exact ⟨v, w, a, b, c.same e, d⟩
/-- a new object, frozen -/
theorem Rel.newZ (R : Rel C σ H Z env F P) {p : Addr} {o : HO} (hp : H p = none) : Rel C σ (upd H p o) (upd Z p o) env F P ∧ Same H (upd H p o) ∧ Stp H Z (Af env F) (upd H p o) (upd Z p o) (Af env F) := by
  obtain ⟨s1, s2⟩ := Stp.newZ (A := Af env F) (o := o) R.sub hp
  have e : Same H (upd H p o) := fun b u q => by rw [upd_ne (ne_of_none q hp)]; exact q
  refine ⟨R.grow e s1.zz s2 fun b u q => ?_, e, s1⟩
  by_cases h : b = p
  · subst h; exact .inr (.inl hp)
  · rw [upd_ne h] at q; exact .inl q
/-- a new object, held -/
theorem Rel.newA (R : Rel C σ H Z env F P) {p : Addr} {o : HO} (hp : H p = none) : Rel C σ (upd H p o) Z env F P ∧ Same H (upd H p o) ∧ Apt F (fun b => b = p) ∧ Z p = none := by
  have e : Same H (upd H p o) := fun b u q => by rw [upd_ne (ne_of_none q hp)]; exact q
  refine ⟨R.grow e (Same.refl Z) (R.sub.trans e) fun b u q => .inl q, e, fun j b x y => ?_, R.sub.free hp⟩
  subst x
  obtain ⟨o', h'⟩ := R.live y
  rw [hp] at h'; cases h'
/-- what is held stands apart: frozen -/
theorem Rel.frz (R : Rel C σ H Z env F P) {U : FS} (live : ∀ b, U b → ∃ o, H b = some o) (ap : Apt F U) : ∃ Z', Rel C σ H Z' env F P ∧ Same Z Z' ∧ (∀ b o, U b → H b = some o → Z' b = some o) ∧ ∀ b o, Z' b = some o → Z b = some o ∨ U b := by
  classical
  refine ⟨fun b => if U b then H b else Z b, ?_, ?_, fun b o x e => by simpa [x] using e, fun b o q => ?_⟩
  · refine R.grow (Same.refl H) ?_ ?_ ?_
    · intro b o e
      by_cases x : U b
      · simpa [x] using R.sub b o e
      · simpa [x] using e
    · intro b o e
      by_cases x : U b
      · simpa [x] using e
      · exact R.sub b o (by simpa [x] using e)
    · intro b o e
      by_cases x : U b
      · exact .inr (.inr fun i _ => ap i b x)
      · exact .inl (by simpa [x] using e)
  · intro b o e
    by_cases x : U b
    · simpa [x] using R.sub b o e
    · simpa [x] using e
  · by_cases x : U b
    · exact .inr x
    · exact .inl (by simpa [x] using q)
theorem getElem_set_eq {α : Type} {l : List α} {i : Nat} {x : α} (h : i < l.length) : (l.set i x)[i]? = some x := by
  rw [List.getElem?_set_self h]
theorem setV_get {env : Env} {i j : Nat} {s : Sl} : (setV env i s)[j]? = if j = i then (if i < env.length then some s else none) else (env[j]?).map (dropAl i) := by
  unfold setV
  by_cases h : j = i
  · subst h
    rw [if_pos rfl]
    by_cases q : j < env.length
    · rw [if_pos q, List.getElem?_set_self (by simpa using q)]
    · rw [if_neg q]
      exact List.getElem?_eq_none_iff.mpr (by simpa using q)
  · rw [if_neg h, List.getElem?_set_ne (Ne.symm h), List.getElem?_map]
theorem dropAl_own {i : Nat} {s : Sl} {t : T} : dropAl i s = .own t ↔ s = .own t := by
  cases s with
  | al r p =>
    simp only [dropAl]
    split <;> simp
  | _ => simp [dropAl]
theorem dropAl_ro {i : Nat} {s : Sl} {t : T} : dropAl i s = .ro t ↔ s = .ro t := by
  cases s with
  | al r p =>
    simp only [dropAl]
    split <;> simp
  | _ => simp [dropAl]
theorem rootT_setV {env : Env} {i r : Nat} {s : Sl} (h : r ≠ i) : rootT (setV env i s) r = rootT env r := by
  unfold rootT
  rw [setV_get, if_neg h]
  cases env[r]? with
  | none => rfl
  | some s =>
    cases s with
    | al a b =>
      by_cases q : a = i <;> simp [dropAl, q]
    | _ => rfl
theorem readP_setV {env : Env} {i r : Nat} {s : Sl} {p : List Sg} (h : r ≠ i) : readP (setV env i s) r p = readP env r p := by
  unfold readP
  rw [rootT_setV h]
theorem isOwn_setV {env : Env} {i j : Nat} {s : Sl} (h : j ≠ i) : IsOwn (setV env i s) j ↔ IsOwn env j := by
  unfold IsOwn
  rw [setV_get, if_neg h]
  constructor
  · rintro ⟨t, e⟩
    cases q : env[j]? with
    | none => rw [q] at e; simp at e
    | some s =>
      rw [q] at e
      simp only [Option.map_some, Option.some.injEq, dropAl_own] at e
      exact ⟨t, by rw [e]⟩
  · rintro ⟨t, e⟩
    exact ⟨t, by rw [e]; rfl⟩
def upF (F : Nat → FS) (i : Nat) (U : FS) : Nat → FS := fun j => if j = i then U else F j
/-- a name gets another value -/
theorem Rel.setSlot (R : Rel C σ H Z env F P) {i : Nat} {v : V} {s : Sl} {U : FS} (hi : i < env.length) (ok : SlotOk C H Z (some v) s U) (ap : ∀ j b, j ≠ i → U b → ¬ F j b) (zf : ∀ t, s = .own t → ∀ b, U b → Z b = none)
    (hal : ∀ r p, s = .al r p → r ≠ i ∧ ∃ w, σ[r]? = some (some w) ∧ PathAt H w p v ∧ (readP env r p).isSome ∧ noNk p = true) (hP : ∀ q ∈ P, q.1 ≠ i) : Rel C (σ.set i (some v)) H Z (setV env i s) (upF F i U) P := by
  have hl : i < σ.length := by rw [R.len]; exact hi
  refine ⟨by simp [setV, R.len], fun j u e => ?_, fun j e b x => ?_, fun j k b n ho x y => ?_, fun j b ho x => ?_, R.sub, fun j r p e => ?_, fun q hq => ?_⟩
  · rw [setV_get] at e
    by_cases h : j = i
    · subst h
      rw [if_pos rfl, if_pos hi] at e
      cases e
      exact ⟨some v, getElem_set_eq hl, by simpa [upF] using ok⟩
    · rw [if_neg h] at e
      cases q : env[j]? with
      | none => rw [q] at e; simp at e
      | some s0 =>
        rw [q] at e
        simp only [Option.map_some, Option.some.injEq] at e
        obtain ⟨x, e1, o⟩ := R.slot j s0 q
        refine ⟨x, by rw [List.getElem?_set_ne (Ne.symm h)]; exact e1, ?_⟩
        subst e
        simp only [upF, if_neg h]
        cases s0 with
        | al r p =>
          simp only [dropAl]
          split
          · exact o.2
          · exact o
        | no => exact o
        | own t => exact o
        | ro t => exact o
  · rw [setV_get] at e
    by_cases h : j = i
    · rw [if_pos h, if_pos hi] at e; cases e
    · rw [if_neg h] at e
      simp only [upF, if_neg h] at x
      exact R.out j (by simpa using e) b x
  · by_cases h : j = i
    · subst h
      simp only [upF, if_true] at x
      simp only [upF, if_neg (Ne.symm n)] at y
      exact ap k b (Ne.symm n) x y
    · simp only [upF, if_neg h] at x
      have ho' := (isOwn_setV h).mp ho
      by_cases h' : k = i
      · subst h'
        simp only [upF, if_true] at y
        exact ap j b h y x
      · simp only [upF, if_neg h'] at y
        exact R.dj j k b n ho' x y
  · by_cases h : j = i
    · subst h
      simp only [upF, if_true] at x
      obtain ⟨t, e⟩ := ho
      rw [setV_get, if_pos rfl, if_pos hi] at e
      exact zf t (Option.some.inj e) b x
    · simp only [upF, if_neg h] at x
      exact R.az j b ((isOwn_setV h).mp ho) x
  · rw [setV_get] at e
    by_cases h : j = i
    · subst h
      rw [if_pos rfl, if_pos hi] at e
      obtain ⟨n, w, e1, pa, rt, nn⟩ := hal r p (Option.some.inj e)
      exact ⟨v, w, getElem_set_eq hl, by rw [List.getElem?_set_ne (Ne.symm n)]; exact e1, pa, by rw [readP_setV n]; exact rt, nn⟩
    · rw [if_neg h] at e
      cases q : env[j]? with
      | none => rw [q] at e; simp at e
      | some s0 =>
        rw [q] at e
        simp only [Option.map_some, Option.some.injEq] at e
        cases s0 with
        | al r' p' =>
          simp only [dropAl] at e
          split at e
          · cases e
          · rename_i n
            injection e with e1 e2
            subst e1; subst e2
            obtain ⟨v', w, a1, a2, a3, a4, a5⟩ := R.al j r' p' q
            exact ⟨v', w, by rw [List.getElem?_set_ne (Ne.symm h)]; exact a1, by rw [List.getElem?_set_ne (Ne.symm n)]; exact a2, a3, by rw [readP_setV n]; exact a4, a5⟩
        | no => simp [dropAl] at e
        | own t => simp [dropAl] at e
        | ro t => simp [dropAl] at e
  · rw [List.getElem?_set_ne (Ne.symm (hP q hq))]
    exact R.pr q hq
theorem Rel.setVal (R : Rel C σ H Z env F P) {i : Nat} {v : V} {t : T} {U : FS} (hi : i < env.length) (o : Own C false H Z v t U) (ap : Apt F U) (zf : ∀ b, U b → Z b = none) (hP : ∀ q ∈ P, q.1 ≠ i) :
    Rel C (σ.set i (some v)) H Z (setV env i (.own t)) (upF F i U) P :=
  R.setSlot hi ⟨v, rfl, o⟩ (fun j b _ x => ap j b x) (fun _ _ => zf) (fun _ _ z => nomatch z) hP
theorem af_setV {i : Nat} {s : Sl} {U : FS} : ∀ b, Af (setV env i s) (upF F i U) b → Af env F b ∨ U b := fun b ⟨j, ho, x⟩ => by
  by_cases h : j = i
  · subst h
    simp only [upF, if_true] at x
    exact .inr x
  · simp only [upF, if_neg h] at x
    exact .inl ⟨j, (isOwn_setV h).mp ho, x⟩

/-! ### a place is written -/
theorem dim_get {r j : Nat} {p : List Sg} : (dim env r p)[j]? = (env[j]?).map (dimS r p) := by
  unfold dim
  rw [List.getElem?_map]
theorem dimS_own {r : Nat} {p : List Sg} {s : Sl} {t : T} : dimS r p s = .own t ↔ s = .own t := by
  cases s with
  | al a b =>
    simp only [dimS]
    split <;> simp
  | _ => simp [dimS]
theorem dim_set {r j : Nat} {p : List Sg} {s : Sl} (hr : r < env.length) : ((dim env r p).set r s)[j]? = if j = r then some s else (env[j]?).map (dimS r p) := by
  by_cases h : j = r
  · subst h
    rw [if_pos rfl, List.getElem?_set_self (by simpa [dim] using hr)]
  · rw [if_neg h, List.getElem?_set_ne (Ne.symm h), dim_get]
/-- the tree at a place of a name's tree becomes another one; W: what was held and may have gone into it -/
theorem Rel.writeX (R : Rel C σ H Z env F P) {r : Nat} {p : List Sg} {t t1 t2 : T} {w v1 : V} {U1 U2 W : FS} (ht : ownT env r = some t) (hw : σ[r]? = some (some w)) (L : Lens C false H Z w t (F r) p v1 t1 U1)
    (s : Stp H Z (fun b => U1 b ∨ W b) H' Z' U2) (o : Own C false H' Z' v1 t2 U2) (aw : Apt F W) (zf : ∀ b, U2 b → Z' b = none) (sub : Same Z' H') :
    ∃ env' F', (writeP env r p t2 = some env' ∧ Rel C σ H' Z' env' F' P ∧ Stp H Z (fun b => Af env F b ∨ W b) H' Z' (Af env' F') ∧ (∀ j b, F' j b → (∃ i, F i b) ∨ W b ∨ H b = none) ∧ ∀ (j : Nat) t0, (env[j]? = some (Sl.ro t0) ↔ env'[j]? = some (Sl.ro t0)) ∧ (env[j]? = some (Sl.ro t0) → F' j = F j)) ∧
      ∀ j b, F' j b → (F j b ∧ (j = r → ¬ U1 b)) ∨ (U2 b ∧ j = r) := by
  obtain ⟨w', hw', oR, isO⟩ := R.rootOwn ht
  rw [hw] at hw'
  have ew : w = w' := Option.some.inj (Option.some.inj hw')
  subst ew
  have hr : r < env.length := by
    obtain ⟨t', e⟩ := isO
    exact (List.getElem?_eq_some_iff.mp e).1
  have u2 : ∀ b, U2 b → F r b → U1 b := fun b x y => by
    rcases s.new b x with (z | z) | z
    · exact z
    · exact absurd y (aw r b z)
    · obtain ⟨ob, e⟩ := R.live y
      rw [e] at z; cases z
  obtain ⟨t', e', o'⟩ := L.put H' Z' t2 U2 s.zz (fun b ob x n e => s.keep b ob e fun y => y.elim n fun z => aw r b z x) o u2
  have other : ∀ j b, j ≠ r → F j b → ∀ ob, H b = some ob → H' b = some ob := fun j b n x ob e => s.keep b ob e fun y => by
    rcases y with y | y
    · exact R.dj r j b (Ne.symm n) isO (L.sub b y) x
    · exact aw j b y x
  have apart : ∀ j b, j ≠ r → U2 b → ¬ F j b := fun j b n x y => by
    rcases s.new b x with (z | z) | z
    · exact R.dj r j b (Ne.symm n) isO (L.sub b z) y
    · exact aw j b z y
    · obtain ⟨ob, e⟩ := R.live y
      rw [e] at z; cases z
  have hen : writeP env r p t2 = some ((dim env r p).set r (.own t')) := by
    unfold writeP
    rw [ht]
    simp only [e', Option.map_some]
  refine ⟨_, upF F r (fun b => (F r b ∧ ¬ U1 b) ∨ U2 b), ⟨hen, ⟨by simp [dim, R.len], fun j sl e => ?_, fun j e b x => ?_, fun j k b n ho x y => ?_, fun j b ho x => ?_, sub, fun j r' p' e => ?_, R.pr⟩, ⟨s.zz, fun b ob e n => s.keep b ob e fun y => n ?_, fun b x => ?_, fun b ob q => ?_⟩, fun j b x => ?_, fun j t0 => ?_⟩, fun j b x => ?_⟩
  · rw [dim_set hr] at e
    by_cases h : j = r
    · subst h
      rw [if_pos rfl] at e
      cases e
      exact ⟨some w, hw, w, rfl, by simpa [upF] using o'⟩
    · rw [if_neg h] at e
      cases q : env[j]? with
      | none => rw [q] at e; simp at e
      | some s0 =>
        rw [q] at e
        simp only [Option.map_some, Option.some.injEq] at e
        obtain ⟨x, e1, so⟩ := R.slot j s0 q
        refine ⟨x, e1, ?_⟩
        subst e
        simp only [upF, if_neg h]
        cases s0 with
        | al a b =>
          simp only [dimS]
          split
          · exact so.2
          · exact so
        | no => exact so
        | own t0 =>
          obtain ⟨v, a, so⟩ := so
          exact ⟨v, a, so.keep s.zz fun b x ob e => other j b h x ob e⟩
        | ro t0 =>
          obtain ⟨v, a, so⟩ := so
          exact ⟨v, a, so.keep s.zz fun b x ob e => other j b h x ob e⟩
  · rw [dim_set hr] at e
    by_cases h : j = r
    · rw [if_pos h] at e; cases e
    · rw [if_neg h] at e
      simp only [upF, if_neg h] at x
      exact R.out j (by simpa using e) b x
  · have own' : ∀ j, j ≠ r → IsOwn ((dim env r p).set r (.own t')) j → IsOwn env j := fun j h ⟨t0, e⟩ => by
      rw [dim_set hr, if_neg h] at e
      cases q : env[j]? with
      | none => rw [q] at e; simp at e
      | some s0 =>
        rw [q] at e
        simp only [Option.map_some, Option.some.injEq, dimS_own] at e
        exact ⟨t0, by rw [q, e]⟩
    by_cases h : j = r
    · subst h
      simp only [upF, if_true] at x
      simp only [upF, if_neg (Ne.symm n)] at y
      rcases x with ⟨x, _⟩ | x
      · exact R.dj j k b n isO x y
      · exact apart k b (Ne.symm n) x y
    · simp only [upF, if_neg h] at x
      by_cases h' : k = r
      · subst h'
        simp only [upF, if_true] at y
        rcases y with ⟨y, _⟩ | y
        · exact R.dj j k b n (own' j h ho) x y
        · exact apart j b h y x
      · simp only [upF, if_neg h'] at y
        exact R.dj j k b n (own' j h ho) x y
  · by_cases h : j = r
    · subst h
      simp only [upF, if_true] at x
      rcases x with ⟨x, n⟩ | x
      · cases q : Z' b with
        | none => rfl
        | some ob =>
          rcases s.nz b ob q with z | (z | z) | z
          · rw [R.az j b isO x] at z; cases z
          · exact absurd z n
          · exact absurd x (aw j b z)
          · obtain ⟨o1, e⟩ := R.live x
            rw [e] at z; cases z
      · exact zf b x
    · simp only [upF, if_neg h] at x
      have ho' : IsOwn env j := by
        obtain ⟨t0, e⟩ := ho
        rw [dim_set hr, if_neg h] at e
        cases q : env[j]? with
        | none => rw [q] at e; simp at e
        | some s0 =>
          rw [q] at e
          simp only [Option.map_some, Option.some.injEq, dimS_own] at e
          exact ⟨t0, by rw [q, e]⟩
      cases q : Z' b with
      | none => rfl
      | some ob =>
        rcases s.nz b ob q with z | (z | z) | z
        · rw [R.az j b ho' x] at z; cases z
        · exact absurd (L.sub b z) fun z' => R.dj r j b (Ne.symm h) isO z' x
        · exact absurd x (aw j b z)
        · obtain ⟨o1, e⟩ := R.live x
          rw [e] at z; cases z
  · rw [dim_set hr] at e
    by_cases h : j = r
    · rw [if_pos h] at e; cases e
    · rw [if_neg h] at e
      cases q : env[j]? with
      | none => rw [q] at e; simp at e
      | some s0 =>
        rw [q] at e
        simp only [Option.map_some, Option.some.injEq] at e
        cases s0 with
        | al a b =>
          simp only [dimS] at e
          split at e
          · cases e
          · rename_i nr
            injection e with e1 e2
            subst e1; subst e2
            obtain ⟨v, w', a1, a2, a3, a4, a5⟩ := R.al j a b q
            have hroot : rootT ((dim env r p).set r (.own t')) a = rootT env a := by
              unfold rootT
              rw [dim_set hr, if_neg nr]
              cases env[a]? with
              | none => rfl
              | some s1 =>
                cases s1 with
                | al c d =>
                  by_cases q : c = r <;> simp [dimS, q]
                | _ => rfl
            refine ⟨v, w', a1, a2, ?_, by unfold readP at a4 ⊢; rw [hroot]; exact a4, a5⟩
            unfold readP at a4
            cases et : rootT env a with
            | none => rw [et] at a4; simp at a4
            | some tt =>
              rw [et] at a4
              obtain ⟨w2, b1, b2⟩ := R.rootAny et
              rw [a2] at b1
              have e2 := Option.some.inj (Option.some.inj b1)
              subst e2
              exact a3.own b2 a4 fun b ob x e => other a b nr x ob e
        | no => simp [dimS] at e
        | own t => simp [dimS] at e
        | ro t => simp [dimS] at e
  · rcases y with y | y
    · exact .inl ⟨r, isO, L.sub b y⟩
    · exact .inr y
  · obtain ⟨j, ho, x⟩ := x
    by_cases h : j = r
    · subst h
      simp only [upF, if_true] at x
      rcases x with ⟨x, _⟩ | x
      · exact .inl (.inl ⟨j, isO, x⟩)
      · rcases s.new b x with (z | z) | z
        · exact .inl (.inl ⟨j, isO, L.sub b z⟩)
        · exact .inl (.inr z)
        · exact .inr z
    · simp only [upF, if_neg h] at x
      obtain ⟨t0, e⟩ := ho
      rw [dim_set hr, if_neg h] at e
      cases q : env[j]? with
      | none => rw [q] at e; simp at e
      | some s0 =>
        rw [q] at e
        simp only [Option.map_some, Option.some.injEq, dimS_own] at e
        exact .inl (.inl ⟨j, ⟨t0, by rw [q, e]⟩, x⟩)
  · rcases s.nz b ob q with z | (z | z) | z
    · exact .inl z
    · exact .inr (.inl (.inl ⟨r, isO, L.sub b z⟩))
    · exact .inr (.inl (.inr z))
    · exact .inr (.inr z)
  · by_cases h : j = r
    · subst h
      simp only [upF, if_true] at x
      rcases x with ⟨x, _⟩ | x
      · exact .inl ⟨j, x⟩
      · rcases s.new b x with (z | z) | z
        · exact .inl ⟨j, L.sub b z⟩
        · exact .inr (.inl z)
        · exact .inr (.inr z)
    · simp only [upF, if_neg h] at x
      exact .inl ⟨j, x⟩
  · by_cases h : j = r
    · subst h
      obtain ⟨t1, e1⟩ := isO
      rw [dim_set hr, if_pos rfl, e1]
      exact ⟨⟨fun q => (by cases q), fun q => (by cases q)⟩, fun q => (by cases q)⟩
    · rw [dim_set hr, if_neg h]
      refine ⟨?_, fun _ => by simp only [upF, if_neg h]⟩
      cases q : env[j]? with
      | none => simp
      | some s0 =>
        cases s0 with
        | al a b =>
          simp only [Option.map_some, dimS]
          by_cases z : a = r <;> simp [z]
        | no => simp [dimS]
        | own t => simp [dimS]
        | ro t => simp [dimS]
  · by_cases h : j = r
    · subst h
      simp only [upF, if_true] at x
      exact x.imp (fun y => ⟨y.1, fun _ => y.2⟩) fun y => ⟨y, rfl⟩
    · simp only [upF, if_neg h] at x
      exact .inl ⟨x, fun z => absurd z h⟩
theorem Rel.write (R : Rel C σ H Z env F P) {r : Nat} {p : List Sg} {t t1 t2 : T} {w v1 : V} {U1 U2 W : FS} (ht : ownT env r = some t) (hw : σ[r]? = some (some w)) (L : Lens C false H Z w t (F r) p v1 t1 U1)
    (s : Stp H Z (fun b => U1 b ∨ W b) H' Z' U2) (o : Own C false H' Z' v1 t2 U2) (aw : Apt F W) (zf : ∀ b, U2 b → Z' b = none) (sub : Same Z' H') :
    ∃ env' F', writeP env r p t2 = some env' ∧ Rel C σ H' Z' env' F' P ∧ Stp H Z (fun b => Af env F b ∨ W b) H' Z' (Af env' F') ∧ (∀ j b, F' j b → (∃ i, F i b) ∨ W b ∨ H b = none) ∧ ∀ (j : Nat) t0, (env[j]? = some (Sl.ro t0) ↔ env'[j]? = some (Sl.ro t0)) ∧ (env[j]? = some (Sl.ro t0) → F' j = F j) := by
  obtain ⟨a, b, h, _⟩ := R.writeX ht hw L s o aw zf sub
  exact ⟨a, b, h⟩
end
end Mp

end
section
set_option Elab.async false
set_option linter.all false
set_option maxRecDepth 100000
set_option autoImplicit false
/-! MiniPy, part G: operations over data, as rules by values. -/
namespace Mp
open PySem PySem.Spec PyProof.Rows L2

/-- data to be read now: frozen, or a list of the names' own with frozen items -/
def Dq (K : PySem.W.Frag) (Z H : Hp) (v : V) (d : PyData) : Prop := Dz K Z v d ∨ ∃ a vs ds, v = .ref a ∧ d = .list ds ∧ Rd H a (.lst vs) ∧ DzAll K Z vs ds
section
variable {K : PySem.W.Frag} {Z H H' Z' : Hp} {v : V}
theorem Dq.dz {d : PyData} (h : Dq K Z H v d) (s : Same Z H) : Dz K H v d := by
  rcases h with h | ⟨a, vs, ds, rfl, rfl, h1, h2⟩
  · exact dp_same s h
  · exact .lst h1 (dpAll_same s h2)
theorem Dq.list {ds : List PyData} (h : Dq K Z H v (.list ds)) (s : Same Z H) : ∃ a vs, v = .ref a ∧ Rd H a (.lst vs) ∧ DzAll K Z vs ds := by
  rcases h with h | ⟨a, vs, ds', rfl, e, h1, h2⟩
  · cases h with
    | lst h1 h2 => exact ⟨_, _, rfl, rd_same s h1, h2⟩
  · injection e with e
    subst e
    exact ⟨a, vs, rfl, h1, h2⟩
theorem Dq.tup {ds : List PyData} (h : Dq K Z H v (.tuple ds)) : ∃ a vs, v = .ref a ∧ SqT K Z a vs ∧ DzAll K Z vs ds := by
  rcases h with h | ⟨a, vs, ds', rfl, e, h1, h2⟩
  · cases h with
    | tup h1 h2 => exact ⟨_, _, rfl, h1, h2⟩
  · cases e
theorem Dq.int {i : Int} (h : Dq K Z H v (.int i)) : v = .int i := by
  rcases h with h | ⟨a, vs, ds', rfl, e, h1, h2⟩
  · cases h; rfl
  · cases e
theorem Dq.bool {i : Bool} (h : Dq K Z H v (.bool i)) : v = .bl i := by
  rcases h with h | ⟨a, vs, ds', rfl, e, h1, h2⟩
  · cases h; rfl
  · cases e
theorem Dq.str {i : Str} (h : Dq K Z H v (.str i)) : v = .str i := by
  rcases h with h | ⟨a, vs, ds', rfl, e, h1, h2⟩
  · cases h; rfl
  · cases e
theorem Dq.non (h : Dq K Z H v .none) : v = .non := by
  rcases h with h | ⟨a, vs, ds', rfl, e, h1, h2⟩
  · cases h; rfl
  · cases e
theorem Dq.nodict {kvs : List (PyData × PyData)} (h : Dq K Z H v (.dict kvs)) : False := by
  rcases h with h | ⟨a, vs, ds', rfl, e, h1, h2⟩
  · cases h
  · cases e
theorem Dq.same {d : PyData} (h : Dq K Z H v d) (e : Same H H') (z : Same Z Z') : Dq K Z' H' v d := by
  rcases h with h | ⟨a, vs, ds, h0, h3, h1, h2⟩
  · exact .inl (dp_same z h)
  · exact .inr ⟨a, vs, ds, h0, h3, rd_same e h1, dpAll_same z h2⟩
theorem dzInts : ∀ {vs : List V} {ds : List PyData} {ns : List Int}, DzAll K Z vs ds → intsOf ds = some ns → vs = ns.map V.int
  | _, _, _, .nil, e => by simp only [intsOf, Option.some.injEq] at e; subst e; rfl
  | _, _, _, .cons (d := d) (ds := ds) h t, e => by
    cases h with
    | int i =>
      simp only [intsOf, Option.map_eq_some_iff] at e
      obtain ⟨ms, e1, rfl⟩ := e
      rw [List.map_cons, dzInts t e1]
    | _ => simp [intsOf] at e
theorem dzBools : ∀ {vs : List V} {ds : List PyData} {ns : List Bool}, DzAll K Z vs ds → boolsOf ds = some ns → vs = ns.map V.bl
  | _, _, _, .nil, e => by simp only [boolsOf, Option.some.injEq] at e; subst e; rfl
  | _, _, _, .cons (d := d) (ds := ds) h t, e => by
    cases h with
    | bl i =>
      simp only [boolsOf, Option.map_eq_some_iff] at e
      obtain ⟨ms, e1, rfl⟩ := e
      rw [List.map_cons, dzBools t e1]
    | _ => simp [boolsOf] at e
theorem dzStrs : ∀ {vs : List V} {ds : List PyData} {ns : List Str}, DzAll K Z vs ds → strsOf ds = some ns → vs = ns.map V.str
  | _, _, _, .nil, e => by simp only [strsOf, Option.some.injEq] at e; subst e; rfl
  | _, _, _, .cons (d := d) (ds := ds) h t, e => by
    cases h with
    | str i =>
      simp only [strsOf, Option.map_eq_some_iff] at e
      obtain ⟨ms, e1, rfl⟩ := e
      rw [List.map_cons, dzStrs t e1]
    | _ => simp [strsOf] at e
theorem dzOfInts : ∀ (ns : List Int), DzAll K Z (ns.map V.int) (ns.map PyData.int)
  | [] => .nil
  | n :: ns => .cons (.int n) (dzOfInts ns)
theorem dzOfStrs : ∀ (ns : List Str), DzAll K Z (ns.map V.str) (ns.map PyData.str)
  | [] => .nil
  | n :: ns => .cons (.str n) (dzOfStrs ns)
theorem dzAt {vs : List V} {ds : List PyData} {i : Int} {d : PyData} (h : DzAll K Z vs ds) (e : atI ds i = some d) : ∃ v, atI vs i = some v ∧ Dz K Z v d := by
  unfold atI at e ⊢
  rw [dpAll_len h]
  cases q : ixN ds.length i with
  | none => rw [q] at e; simp at e
  | some j =>
    rw [q] at e
    simp only [Option.bind_some] at e ⊢
    exact dpAll_get h e
theorem dzCut {vs : List V} {ds : List PyData} (lo hi : Option Int) (h : DzAll K Z vs ds) : DzAll K Z (cutV vs lo hi) (cutD ds lo hi) := by
  unfold cutV cutD
  rw [dpAll_len h]
  exact dpAll_take _ (dpAll_drop _ h)
theorem dzRep {vs : List V} {ds : List PyData} (h : DzAll K Z vs ds) : ∀ n : Nat, DzAll K Z (List.replicate n vs).flatten (List.replicate n ds).flatten
  | 0 => .nil
  | n + 1 => by
    rw [List.replicate_succ, List.replicate_succ, List.flatten_cons, List.flatten_cons]
    exact dpAll_append h (dzRep h n)
theorem dzFlat : ∀ {v : V} {d : PyData}, Dz K Z v d → isFlat d = true → flatV v = true
  | _, _, .non, _ => rfl
  | _, _, .int _, _ => rfl
  | _, _, .str _, _ => rfl
  | _, _, .bl _, h => by simp [isFlat] at h
  | _, _, .lst .., h => by simp [isFlat] at h
  | _, _, .tup .., h => by simp [isFlat] at h
theorem dzFlats : ∀ {vs : List V} {ds : List PyData}, DzAll K Z vs ds → ds.all isFlat = true → vs.all flatV = true
  | _, _, .nil, _ => rfl
  | _, _, .cons h t, e => by
    rw [List.all_cons, Bool.and_eq_true] at e ⊢
    exact ⟨dzFlat h e.1, dzFlats t e.2⟩
theorem eqvFlat {x y : V} {d e : PyData} (h : Dz K Z x d) (h' : Dz K Z y e) (f : isFlat d = true) (f' : isFlat e = true) : PyData.eqv d e = eqV x y := by
  cases h with
  | non => cases h' with
    | non => rfl
    | int _ => rfl
    | str _ => rfl
    | _ => simp [isFlat] at f'
  | int i => cases h' with
    | non => rfl
    | int j => simp [PyData.eqv, eqV]
    | str _ => rfl
    | _ => simp [isFlat] at f'
  | str i => cases h' with
    | non => rfl
    | int _ => rfl
    | str j => simp [PyData.eqv, eqV]
    | _ => simp [isFlat] at f'
  | _ => simp [isFlat] at f
theorem anyFlat {x : V} {d : PyData} (h : Dz K Z x d) (f : isFlat d = true) : ∀ {vs : List V} {ds : List PyData}, DzAll K Z vs ds → ds.all isFlat = true → (ds.any fun z => PyData.eqv z d) = inV x vs
  | _, _, .nil, _ => rfl
  | _, _, .cons (d := e) a t, q => by
    rw [List.all_cons, Bool.and_eq_true] at q
    unfold inV
    rw [List.any_cons, List.any_cons, eqvFlat a h q.1 f, anyFlat h f t q.2]
    rfl
end

/-- what an operation gives: a value that is there, or a new object -/
def Gives (K : PySem.W.Frag) (Z H : Hp) (r : PyData) (Q : VK) : Prop :=
  (∀ v, Dz K Z v r → Q v H) ∧ ∀ p u, H p = none → Dz K (upd Z p u) (.ref p) r → Q (.ref p) (upd H p u)
theorem Gives.lst {K : PySem.W.Frag} {Z H : Hp} {ds : List PyData} {vs : List V} {Q : VK} (g : Gives K Z H (.list ds) Q) (zh : Same Z H) (h : DzAll K Z vs ds) {p : Addr} (hp : H p = none) : Q (.ref p) (upd H p (.lst vs)) :=
  g.2 p _ hp (.lst (.inl upd_same) (dpAll_same (fun b o e => by rw [upd_ne (ne_of_none e (zh.free hp))]; exact e) h))
theorem Gives.tup {K : PySem.W.Frag} {Z H : Hp} {ds : List PyData} {vs : List V} {Q : VK} (g : Gives K Z H (.tuple ds) Q) (zh : Same Z H) (h : DzAll K Z vs ds) {p : Addr} (hp : H p = none) : Q (.ref p) (upd H p (.tup vs)) :=
  g.2 p _ hp (.tup (.inl (.inl upd_same)) (dpAll_same (fun b o e => by rw [upd_ne (ne_of_none e (zh.free hp))]; exact e) h))
def rP2 (K : PySem.W.Frag) (g : PyData → PyData → Option PyData) : R2 := fun x y H Q => ∃ Z d e r, Same Z H ∧ Dq K Z H x d ∧ Dq K Z H y e ∧ g d e = some r ∧ Gives K Z H r Q
def rPL (K : PySem.W.Frag) (g : List PyData → Option PyData) : List V → Hp → VK → Prop := fun xs H Q => ∃ Z ds r, Same Z H ∧ Paired (Dq K Z H) xs ds ∧ g ds = some r ∧ Gives K Z H r Q

def opPy : Op → Operator
  | .add => .Add
  | .sub => .Sub
  | .mul => .Mult
  | .fdiv => .FloorDiv
  | .mod => .Mod
section
variable {X : Cx} {pins : List (Addr × Obj)} {σ : Sto} {H : Hp} {s : Shared}
theorem Inv.lstR {l : Addr} {xs : List V} (I : L2.Inv X pins σ H s) (hH : Rd H l (.lst xs)) : xs.length ≤ sizeLine ∧ ∃ (its : List Value) (n : Nat), Vals xs its ∧ xs.length = its.length ∧ s.heap.get? l = some { cls := .type "list", data := .seq its.toArray n } := by
  obtain ⟨z, its, n, r, e⟩ := hH.ok I.hok
  exact ⟨z, its, n, r, r.length, e⟩
/-- list + list -/
theorem catR : OpR X (binaryOp .Add) (fun x y H Q => ∃ l b xs zs, x = .ref l ∧ y = .ref b ∧ Rd H l (.lst xs) ∧ Rd H b (.lst zs) ∧ xs.length + zs.length ≤ sizeLine ∧ ∀ p, H p = none → Q (.ref p) (upd H p (.lst (xs ++ zs)))) := by
  intro pins s σ H x y v u Q I rx ry h
  obtain ⟨l, b, xs, zs, rfl, rfl, h1, h2, hz, q⟩ := h
  cases rx
  cases ry
  obtain ⟨_, us, n, r, hl, e⟩ := Inv.lstR I h1
  obtain ⟨_, ws, m, r', hl', e'⟩ := Inv.lstR I h2
  have hb : us.toArray.size + ws.toArray.size ≤ sizeLine := by simp only [List.size_toArray]; omega
  refine PySem.P.add_list e e' ?_ hb
  rw [show us.toArray ++ ws.toArray = (us ++ ws).toArray by simp]
  exact ⟨.ref _, _, I.lnew (t' := s.toks) (r.append r') (by simp only [List.length_append]; omega), rfl, q _ I.fresh⟩
/-- xs.extend(ys), ys any list that can be read -/
theorem extR : MtM X "list.extend" (fun x vs H Q => ∃ l b xs zs, x = .ref l ∧ vs = [.ref b] ∧ H l = some (.lst xs) ∧ Rd H b (.lst zs) ∧ xs.length + zs.length ≤ sizeLine ∧ Q .non (upd H l (.lst (xs ++ zs)))) := by
  intro pins s σ H x vs v us Q I rx rv h
  obtain ⟨l, b, xs, zs, rfl, rfl, h1, h2, hz, q⟩ := h
  cases rx
  obtain ⟨u, rfl, ru⟩ := rv.one
  cases ru
  obtain ⟨_, ys, n, r, hl, e⟩ := Inv.lstR I (.inl h1)
  obtain ⟨_, ws, m, r', hl', e'⟩ := Inv.lstR I h2
  have hb : ys.toArray.size + ws.toArray.size ≤ sizeLine := by simp only [List.size_toArray]; omega
  have nl : ¬ (!ys.toArray.isEmpty && Builtin.List.listTooLong (ys.toArray.size + ws.toArray.size)) = true := by
    rw [notLongL hb]
    simp
  refine call_meets F.slot_list_extend ⟨_, e, rfl⟩ F.entry_list_extend (F.args_list_extend_2 _ _) (AutoSeq1.list_extend_list_list_0 l ys.toArray n b ws.toArray m nl (by simp only [List.size_toArray]; omega) (by omega)) ⟨e, e', ?_⟩
  exact ⟨.non, _, I.lset (its' := ys ++ ws) h1 e (by simp) (r.append r') (by simp only [List.length_append]; omega), rfl, q⟩
/-- list * int, whatever can be read -/
theorem repR : OpR X (binaryOp .Mult) (fun x y H Q => ∃ l k xs, x = .ref l ∧ y = .int k ∧ Rd H l (.lst xs) ∧ -(2 ^ 63) ≤ k ∧ k < 2 ^ 63 ∧ xs.length * k.toNat ≤ sizeLine ∧ ∀ p, H p = none → Q (.ref p) (upd H p (.lst (List.replicate k.toNat xs).flatten))) := by
  intro pins s σ H x y v u Q I rx ry h
  obtain ⟨l, k, xs, rfl, rfl, h1, lo, hi, hz, q⟩ := h
  cases rx
  obtain ⟨t, rfl⟩ := ry
  obtain ⟨_, us, n, r, hl, e⟩ := Inv.lstR I h1
  have z1 : us.toArray.size * k.toNat ≤ sizeLine := by rw [List.size_toArray, ← hl]; exact hz
  have z2 : ¬ us.toArray.size * k.toNat > (2 ^ 63 - 1) / 8 := by
    have w : (sizeLine : Nat) ≤ (2 ^ 63 - 1) / 8 := by decide
    exact fun q => absurd (Nat.le_trans z1 w) (Nat.not_le.mpr q)
  have z3 : ¬ (!Builtin.List.listFitsIndex k) = true := by rw [fitsIndex_both lo hi]; simp
  have z4 : ¬ Builtin.List.listTooLong (us.toArray.size * k.toNat) = true := by rw [notLongL z1]; simp
  have z5 : List.foldl (fun a b => a ++ b) #[] (List.replicate (if us.toArray.isEmpty = true then 0 else k.toNat) us.toArray) = (List.replicate k.toNat us).flatten.toArray := by
    have f (m : Nat) : List.foldl (fun a b => a ++ b) #[] (List.replicate m us.toArray) = (List.replicate m us).flatten.toArray := by simpa using foldl_rep us m []
    rw [f]
    cases us <;> simp
  have m1 := AutoListH.list___mul___list_int_3 l us.toArray n k t z3 z2 z4
  refine wpAny_binaryOp_repeat_ref (T := "list") (U := "int") (by decide) ⟨_, e, rfl⟩ (fun st => typeIs_int st k t) noFill_list_mul F.fills_int_mul F.slot_int_rmul repeat_list F.slot_int_index.lookup ?_
  refine call_meets F.slot_int_rmul (typeIs_int s k t) F.entry_int_rmul (F.args_int_rmul_2 _ _) (int___rmul___int_list k t l us.toArray n) ⟨e, rfl, ⟨_, e, rfl⟩, ?_⟩
  refine call_meets F.slot_list_mul ⟨_, e, rfl⟩ F.entry_list_mul (F.args_list_mul_2 _ _) m1 ⟨e, ?_⟩
  rw [z5]
  have zz : ((List.replicate k.toNat xs).flatten).length ≤ sizeLine := by rw [PyProof.Rows.lm_len_rep_flat, Nat.mul_comm]; exact hz
  exact ⟨.ref _, _, I.lnew (t' := s.toks) (r.rep k.toNat) zz, rfl, q _ I.fresh⟩

/-- str * 0, str * 1 -/
theorem mulS : OpR X (binaryOp .Mult) (fun x y H Q => ∃ i k, x = .str i ∧ y = .int k ∧ ((k = 0 ∧ Q (.str Str.empty) H) ∨ (k = 1 ∧ Q (.str i) H))) := by
  intro pins s σ H x y v u Q I rx ry h
  obtain ⟨i, k, rfl, rfl, h⟩ := h
  obtain ⟨t, rfl⟩ := rx
  obtain ⟨t', rfl⟩ := ry
  rcases h with ⟨rfl, q⟩ | ⟨rfl, q⟩
  · exact P.mul_str_none (by decide) (by decide) ⟨.str Str.empty, H, I.tok _, ⟨_, rfl⟩, q⟩
  · exact P.mul_str rfl (fun _ h => by simp at h) (fun _ h => by simp at h) ⟨.str i, H, I, ⟨_, rfl⟩, q⟩
/-- the five operators over data -/
theorem opBinR (o : Op) : OpR X (binaryOp (opPy o)) (rP2 X.K (opBin o)) := by
  intro pins s σ H x y v u Q I rx ry h
  obtain ⟨Z, d, e, r, zh, hx, hy, hr, g⟩ := h
  cases o with
  | add =>
    cases d with
    | int i => cases e with
      | int j =>
        simp only [opBin, Option.some.injEq] at hr
        subst hr
        have ex := hx.int; have ey := hy.int; subst ex; subst ey
        exact op_add pins s σ H _ _ v u Q I rx ry ⟨i, j, rfl, rfl, g.1 _ (.int _)⟩
      | _ => simp [opBin] at hr
    | str i => cases e with
      | str j =>
        simp only [opBin] at hr
        split at hr
        · rename_i hz
          cases hr
          have ex := hx.str; have ey := hy.str; subst ex; subst ey
          exact op_add_str pins s σ H _ _ v u Q I rx ry ⟨i, j, rfl, rfl, hz, g.1 _ (.str _)⟩
        · cases hr
      | _ => simp [opBin] at hr
    | list i => cases e with
      | list j =>
        simp only [opBin] at hr
        split at hr
        · rename_i hz
          cases hr
          obtain ⟨a, vs, rfl, r1, z1⟩ := hx.list zh
          obtain ⟨b, ws, rfl, r2, z2⟩ := hy.list zh
          exact catR pins s σ H _ _ v u Q I rx ry ⟨a, b, vs, ws, rfl, rfl, r1, r2, by rw [dpAll_len z1, dpAll_len z2]; exact hz, fun p hp => g.lst zh (dpAll_append z1 z2) hp⟩
        · cases hr
      | _ => simp [opBin] at hr
    | tuple i => cases e with
      | tuple j =>
        simp only [opBin] at hr
        split at hr
        · rename_i hz
          cases hr
          obtain ⟨a, vs, rfl, r1, z1⟩ := hx.tup
          obtain ⟨b, ws, rfl, r2, z2⟩ := hy.tup
          refine op_catA pins s σ H _ _ v u Q I rx ry ⟨a, b, vs, ws, rfl, rfl, sqT_same zh r1, sqT_same zh r2, by rw [dpAll_len z1, dpAll_len z2]; exact hz, fun n => ?_, fun _ n => ?_, fun _ _ p hp => g.tup zh (dpAll_append z1 z2) hp⟩
          · subst n
            cases z1
            exact g.1 _ (.tup r2 z2)
          · subst n
            cases z2
            rw [List.append_nil] at g
            exact g.1 _ (.tup r1 z1)
        · cases hr
      | _ => simp [opBin] at hr
    | _ => simp [opBin] at hr
  | sub =>
    cases d with
    | int i => cases e with
      | int j =>
        simp only [opBin, Option.some.injEq] at hr
        subst hr
        have ex := hx.int; have ey := hy.int; subst ex; subst ey
        exact op_sub pins s σ H _ _ v u Q I rx ry ⟨i, j, rfl, rfl, g.1 _ (.int _)⟩
      | _ => simp [opBin] at hr
    | _ => simp [opBin] at hr
  | mul =>
    cases d with
    | int i => cases e with
      | int j =>
        simp only [opBin] at hr
        split at hr
        · rename_i hz
          cases hr
          have ex := hx.int; have ey := hy.int; subst ex; subst ey
          exact op_mul pins s σ H _ _ v u Q I rx ry ⟨i, j, rfl, rfl, by unfold CMul; omega, g.1 _ (.int _)⟩
        · cases hr
      | _ => simp [opBin] at hr
    | list i => cases e with
      | int k =>
        simp only [opBin] at hr
        split at hr
        · rename_i hz
          cases hr
          obtain ⟨a, vs, rfl, r1, z1⟩ := hx.list zh
          have ey := hy.int; subst ey
          exact repR pins s σ H _ _ v u Q I rx ry ⟨a, k, vs, rfl, rfl, r1, by omega, by omega, by rw [dpAll_len z1]; exact hz.2, fun p hp => g.lst zh (dzRep z1 _) hp⟩
        · cases hr
      | _ => simp [opBin] at hr
    | str i => cases e with
      | int k =>
        simp only [opBin] at hr
        have ex := hx.str; have ey := hy.int; subst ex; subst ey
        split at hr
        · rename_i hz
          cases hr
          exact mulS pins s σ H _ _ v u Q I rx ry ⟨i, k, rfl, rfl, .inl ⟨hz, g.1 _ (.str _)⟩⟩
        · split at hr
          · rename_i hz
            cases hr
            exact mulS pins s σ H _ _ v u Q I rx ry ⟨i, k, rfl, rfl, .inr ⟨hz, g.1 _ (.str _)⟩⟩
          · cases hr
      | _ => simp [opBin] at hr
    | _ => simp [opBin] at hr
  | fdiv =>
    cases d with
    | int i => cases e with
      | int j =>
        simp only [opBin] at hr
        split at hr
        · rename_i hz
          cases hr
          have ex := hx.int; have ey := hy.int; subst ex; subst ey
          exact op_fdivN pins s σ H _ _ v u Q I rx ry ⟨i, j, rfl, rfl, hz, g.1 _ (.int _)⟩
        · cases hr
      | _ => simp [opBin] at hr
    | _ => simp [opBin] at hr
  | mod =>
    cases d with
    | int i => cases e with
      | int j =>
        simp only [opBin] at hr
        split at hr
        · rename_i hz
          cases hr
          have ex := hx.int; have ey := hy.int; subst ex; subst ey
          exact op_modN pins s σ H _ _ v u Q I rx ry ⟨i, j, rfl, rfl, hz, g.1 _ (.int _)⟩
        · cases hr
      | _ => simp [opBin] at hr
    | _ => simp [opBin] at hr

/-! ### comparisons -/
def cmPy : Cm → CmpOp
  | .eq => .Eq
  | .ne => .NotEq
  | .lt => .Lt
  | .le => .LtE
  | .gt => .Gt
  | .ge => .GtE
  | .isin => .In
  | .notin => .NotIn
  | .isN => .Is
  | .notN => .IsNot
theorem inD_run (neg : Bool) (hu : X.A.units + 65 < cLine) {x y : V} {v u : Value} {Q : VK} {Z : Hp} {d e : PyData} {b : Bool} (I : L2.Inv X pins σ H s) (rx : RelV x v) (ry : RelV y u) (zh : Same Z H) (hx : Dq X.K Z H x d) (hy : Dq X.K Z H y e)
    (hb : inD d e = some b) (q : Q (.bl (if neg then !b else b)) H) : wpAny (model X.prog X.w) X.A (compareOp (if neg then .NotIn else .In) v u) (EP X pins σ Q) X.xe s := by
  have viaList : ∀ ds, e = .list ds → SeqAt.shaped d = true → SeqAt.shaped (.list ds) = true → b = (ds.any fun z => PyData.eqv z d) → wpAny (model X.prog X.w) X.A (compareOp (if neg then .NotIn else .In) v u) (EP X pins σ Q) X.xe s := by
    intro ds e1 s1 s2 e2
    subst e1; subst e2
    cases neg with
    | false => exact op_inD hu pins s σ H _ _ v u Q I rx ry ⟨d, ds, (hx.dz zh).dp, (hy.dz zh).dp, s1, s2, q⟩
    | true => exact op_notInD hu pins s σ H _ _ v u Q I rx ry ⟨d, ds, (hx.dz zh).dp, (hy.dz zh).dp, s1, s2, q⟩
  have viaTup : ∀ ds, e = .tuple ds → isFlat d = true → ds.all isFlat = true → b = (ds.any fun z => PyData.eqv z d) → wpAny (model X.prog X.w) X.A (compareOp (if neg then .NotIn else .In) v u) (EP X pins σ Q) X.xe s := by
    intro ds e1 s1 s2 e2
    subst e1; subst e2
    obtain ⟨a, vs, rfl, r1, z1⟩ := hy.tup
    have dx : Dz X.K Z x d := by
      rcases hx with h | ⟨_, _, _, rfl, rfl, _, _⟩
      · exact h
      · simp [isFlat] at s1
    have ea := anyFlat dx s1 z1 s2
    rw [ea] at q
    cases neg with
    | false => exact op_in_seq pins s σ H _ _ v u Q I rx ry ⟨a, vs, rfl, .inr (sqT_same zh r1), dzFlat dx s1, dzFlats z1 s2, by simpa using q⟩
    | true => exact op_notIn_seq pins s σ H _ _ v u Q I rx ry ⟨a, vs, rfl, .inr (sqT_same zh r1), dzFlat dx s1, dzFlats z1 s2, by simpa using q⟩
  cases e with
  | list ds =>
    have hb' : (if (SeqAt.shaped d && SeqAt.shaped (.list ds)) = true then some (ds.any fun z => PyData.eqv z d) else none) = some b := by
      cases d <;> exact hb
    split at hb'
    · rename_i h
      rw [Bool.and_eq_true] at h
      exact viaList ds rfl h.1 h.2 (Option.some.inj hb').symm
    · cases hb'
  | tuple ds =>
    have hb' : (if (isFlat d && ds.all isFlat) = true then some (ds.any fun z => PyData.eqv z d) else none) = some b := by
      cases d <;> exact hb
    split at hb'
    · rename_i h
      rw [Bool.and_eq_true] at h
      exact viaTup ds rfl h.1 h.2 (Option.some.inj hb').symm
    · cases hb'
  | str z =>
    cases d with
    | str x0 =>
      have ex := hx.str
      have ey := hy.str
      subst ex; subst ey
      obtain ⟨⟨l⟩⟩ := x0
      match l with
      | [c] =>
        have e2 : b = decide (c ∈ z.cps.toList) := by
          have : some (decide (c ∈ z.cps.toList)) = some b := hb
          exact (Option.some.inj this).symm
        subst e2
        cases neg with
        | false => exact op_in_sign pins s σ H _ _ v u Q I rx ry ⟨c, z, rfl, rfl, q⟩
        | true => exact op_notIn_sign pins s σ H _ _ v u Q I rx ry ⟨c, z, rfl, rfl, q⟩
      | [] => exact nomatch (show (none : Option Bool) = some b from hb)
      | _ :: _ :: _ => exact nomatch (show (none : Option Bool) = some b from hb)
    | _ => exact nomatch (show (none : Option Bool) = some b from hb)
  | _ => cases d <;> exact nomatch (show (none : Option Bool) = some b from hb)
def ii (f : Int → Int → Bool) : PyData → PyData → Option Bool
  | .int i, .int j => some (f i j)
  | _, _ => none
theorem opCmpR (o : Cm) (hu : X.A.units + 65 < cLine) : OpR X (compareOp (cmPy o)) (rP2 X.K fun d e => (opCmp o d e).map .bool) := by
  intro pins s σ H x y v u Q I rx ry h
  obtain ⟨Z, d, e, r, zh, hx, hy, hr, g⟩ := h
  obtain ⟨b, hb, rfl⟩ := Option.map_eq_some_iff.mp hr
  have q := g.1 _ (.bl b)
  have hu' : X.A.units + 64 < cLine := by omega
  have i2 : ∀ (f : Int → Int → Bool), (∀ i j, d = .int i → e = .int j → b = f i j → wpAny (model X.prog X.w) X.A (compareOp (cmPy o) v u) (EP X pins σ Q) X.xe s) → ii f d e = some b → wpAny (model X.prog X.w) X.A (compareOp (cmPy o) v u) (EP X pins σ Q) X.xe s := by
    intro f k h
    cases d with
    | int i => cases e with
      | int j => exact k i j rfl rfl (Option.some.inj h).symm
      | _ => exact nomatch (show (none : Option Bool) = some b from h)
    | _ => exact nomatch (show (none : Option Bool) = some b from h)
  cases o with
  | eq =>
    by_cases hs : ∃ x y, d = .str x ∧ e = .str y
    · obtain ⟨x', y', e1, e2⟩ := hs
      subst e1; subst e2
      have hb : some (decide (x' = y')) = some b := hb
      cases hb
      have ex := hx.str; have ey := hy.str; subst ex; subst ey
      refine op_eq pins s σ H _ _ v u Q I rx ry ⟨rfl, ?_⟩
      have : decide (V.str x' = V.str y') = decide (x' = y') := by
        by_cases h : x' = y' <;> simp [h]
      rw [this]
      exact q
    have hq : eqD d e = eqD0 d e := by
      cases d with
      | str x' => cases e with
        | str y' => exact absurd ⟨x', y', rfl, rfl⟩ hs
        | _ => rfl
      | _ => rfl
    simp only [opCmp, hq, eqD0] at hb
    split at hb
    · rename_i h
      rw [Bool.and_eq_true] at h
      cases hb
      exact op_eqD hu' pins s σ H _ _ v u Q I rx ry ⟨d, e, (hx.dz zh).dp, (hy.dz zh).dp, h.1, h.2, q⟩
    · cases hb
  | ne =>
    by_cases hs : ∃ x y, d = .str x ∧ e = .str y
    · obtain ⟨x', y', e1, e2⟩ := hs
      subst e1; subst e2
      have hb : some (!decide (x' = y')) = some b := hb
      cases hb
      have ex := hx.str; have ey := hy.str; subst ex; subst ey
      refine op_ne pins s σ H _ _ v u Q I rx ry ⟨rfl, ?_⟩
      have : decide (V.str x' = V.str y') = decide (x' = y') := by
        by_cases h : x' = y' <;> simp [h]
      rw [this]
      exact q
    have hq : eqD d e = eqD0 d e := by
      cases d with
      | str x' => cases e with
        | str y' => exact absurd ⟨x', y', rfl, rfl⟩ hs
        | _ => rfl
      | _ => rfl
    simp only [opCmp, hq, eqD0] at hb
    split at hb
    · rename_i h
      rw [Bool.and_eq_true] at h
      cases hb
      exact op_neD hu' pins s σ H _ _ v u Q I rx ry ⟨d, e, (hx.dz zh).dp, (hy.dz zh).dp, h.1, h.2, q⟩
    · cases hb
  | lt =>
    refine i2 (fun i j => decide (i < j)) (fun i j e1 e2 e3 => ?_) (Eq.trans (by cases d <;> cases e <;> rfl) hb)
    subst e1; subst e2; subst e3
    have ex := hx.int; have ey := hy.int; subst ex; subst ey
    exact op_lt pins s σ H _ _ v u Q I rx ry ⟨i, j, rfl, rfl, q⟩
  | le =>
    refine i2 (fun i j => decide (i ≤ j)) (fun i j e1 e2 e3 => ?_) (Eq.trans (by cases d <;> cases e <;> rfl) hb)
    subst e1; subst e2; subst e3
    have ex := hx.int; have ey := hy.int; subst ex; subst ey
    exact op_le pins s σ H _ _ v u Q I rx ry ⟨i, j, rfl, rfl, q⟩
  | gt =>
    refine i2 (fun i j => decide (j < i)) (fun i j e1 e2 e3 => ?_) (Eq.trans (by cases d <;> cases e <;> rfl) hb)
    subst e1; subst e2; subst e3
    have ex := hx.int; have ey := hy.int; subst ex; subst ey
    exact op_gt pins s σ H _ _ v u Q I rx ry ⟨i, j, rfl, rfl, q⟩
  | ge =>
    refine i2 (fun i j => decide (j ≤ i)) (fun i j e1 e2 e3 => ?_) (Eq.trans (by cases d <;> cases e <;> rfl) hb)
    subst e1; subst e2; subst e3
    have ex := hx.int; have ey := hy.int; subst ex; subst ey
    exact op_ge pins s σ H _ _ v u Q I rx ry ⟨i, j, rfl, rfl, q⟩
  | isin => exact inD_run false hu I rx ry zh hx hy (b := b) (by simpa [opCmp] using hb) (by simpa using q)
  | notin =>
    simp only [opCmp, Option.map_eq_some_iff] at hb
    obtain ⟨b', h1, rfl⟩ := hb
    exact inD_run true hu I rx ry zh hx hy h1 (by simpa using q)
  | isN =>
    have he : e = .none := by cases d <;> cases e <;> simp [opCmp] at hb <;> rfl
    subst he
    have := hy.non; subst this
    refine op_isN pins s σ H _ _ v u Q I rx ry ⟨rfl, ?_⟩
    have eb : decide (x = V.non) = b := by
      simp only [opCmp, Option.some.injEq] at hb
      subst hb
      cases d with
      | none => rw [hx.non]; rfl
      | bool i => rw [hx.bool]; rfl
      | int i => rw [hx.int]; rfl
      | str i => rw [hx.str]; rfl
      | list i => obtain ⟨a, vs, rfl, _⟩ := hx.list zh; rfl
      | tuple i => obtain ⟨a, vs, rfl, _⟩ := hx.tup; rfl
      | dict i => exact hx.nodict.elim
    rw [eb]
    exact q
  | notN =>
    have he : e = .none := by cases d <;> cases e <;> simp [opCmp] at hb <;> rfl
    subst he
    have := hy.non; subst this
    refine op_notN pins s σ H _ _ v u Q I rx ry ⟨rfl, ?_⟩
    have eb : (!decide (x = V.non)) = b := by
      simp only [opCmp, Option.some.injEq] at hb
      subst hb
      cases d with
      | none => rw [hx.non]; rfl
      | bool i => rw [hx.bool]; rfl
      | int i => rw [hx.int]; rfl
      | str i => rw [hx.str]; rfl
      | list i => obtain ⟨a, vs, rfl, _⟩ := hx.list zh; rfl
      | tuple i => obtain ⟨a, vs, rfl, _⟩ := hx.tup; rfl
      | dict i => exact hx.nodict.elim
    rw [eb]
    exact q

/-! ### subscripts, slices -/
theorem ixR : IxR X (rP2 X.K ixD) := by
  intro value slice pins s σ H x y v u Q I rx ry h hs
  obtain ⟨Z, d, e, r, zh, hx, hy, hr, g⟩ := h
  cases d with
  | list ds => cases e with
    | int i =>
      obtain ⟨a, vs, rfl, r1, z1⟩ := hx.list zh
      have ey := hy.int; subst ey
      obtain ⟨w, hw, dw⟩ := dzAt z1 hr
      exact ix_list value slice pins s σ H _ _ v u Q I rx ry ⟨a, vs, i, w, rfl, rfl, .inl r1, hw, g.1 _ dw⟩ hs
    | _ => simp [ixD] at hr
  | tuple ds => cases e with
    | int i =>
      obtain ⟨a, vs, rfl, r1, z1⟩ := hx.tup
      have ey := hy.int; subst ey
      obtain ⟨w, hw, dw⟩ := dzAt z1 hr
      exact ix_tup value slice pins s σ H _ _ v u Q I rx ry ⟨a, vs, i, w, rfl, rfl, sqT_same zh r1, hw, g.1 _ dw⟩ hs
    | _ => simp [ixD] at hr
  | str z => cases e with
    | int i =>
      simp only [ixD] at hr
      split at hr
      · rename_i hz
        obtain ⟨c, hc, rfl⟩ := Option.map_eq_some_iff.mp hr
        have ex := hx.str; have ey := hy.int; subst ex; subst ey
        exact ix_str value slice pins s σ H _ _ v u Q I rx ry ⟨z, i, c, rfl, rfl, hz, hc, g.1 _ (.str _)⟩ hs
      · cases hr
    | _ => simp [ixD] at hr
  | _ => simp [ixD] at hr
theorem cut_all {α : Type} (xs : List α) (lo hi : Option Int) (h : HT.sIx xs.length 0 lo = 0 ∧ HT.sIx xs.length xs.length hi = xs.length) : cutD xs lo hi = xs := by
  unfold cutD
  rw [h.1, h.2]
  simp
theorem slR : SlR X (fun x lo hi H Q => ∃ Z d r, Same Z H ∧ Dq X.K Z H x d ∧ slD d lo hi = some r ∧ Gives X.K Z H r Q) := by
  intro pins s σ H x v vl vu lo hi sl Q I rx hs pl pu h
  obtain ⟨Z, d, r, zh, hx, hr, g⟩ := h
  cases d with
  | list ds =>
    simp only [slD, Option.some.injEq] at hr
    subst hr
    obtain ⟨a, vs, rfl, r1, z1⟩ := hx.list zh
    exact sl_list pins s σ H _ v vl vu lo hi sl Q I rx hs pl pu ⟨a, vs, rfl, .inl r1, fun p hp => g.lst zh (dzCut lo hi z1) hp⟩
  | tuple ds =>
    simp only [slD, Option.some.injEq] at hr
    subst hr
    obtain ⟨a, vs, rfl, r1, z1⟩ := hx.tup
    refine sl_tupA pins s σ H _ v vl vu lo hi sl Q I rx hs pl pu ⟨a, vs, rfl, sqT_same zh r1, fun e => ?_, fun _ p hp => g.tup zh (dzCut lo hi z1) hp⟩
    rw [dpAll_len z1] at e
    rw [cut_all ds lo hi e] at g
    exact g.1 _ (.tup r1 z1)
  | str z =>
    simp only [slD] at hr
    split at hr
    · rename_i hz
      cases hr
      have ex := hx.str; subst ex
      exact sl_str pins s σ H _ v vl vu lo hi sl Q I rx hs pl pu ⟨z, rfl, hz, g.1 _ (.str _)⟩
    · cases hr
  | _ => simp [slD] at hr
/-- truth of data -/
theorem truD_tru {Z : Hp} {x : V} {d : PyData} {b : Bool} (zh : Same Z H) (hx : Dq X.K Z H x d) (h : truD d = some b) : TruV X.K x H b := by
  cases d with
  | none => rw [hx.non]; exact (Option.some.inj h).symm
  | bool i => rw [hx.bool]; exact (Option.some.inj h).symm
  | int i => rw [hx.int]; exact (Option.some.inj h).symm
  | str i =>
    rw [hx.str]
    simp only [truD] at h
    split at h
    · rename_i hz
      exact ⟨hz, (Option.some.inj h).symm⟩
    · cases h
  | list i =>
    obtain ⟨a, vs, rfl, r1, z1⟩ := hx.list zh
    refine .inl ⟨vs, .inl r1, ?_⟩
    rw [← Option.some.inj h]
    have := dpAll_len z1
    cases vs <;> cases i <;> simp at this ⊢
  | tuple i =>
    obtain ⟨a, vs, rfl, r1, z1⟩ := hx.tup
    refine .inr (.inl ⟨vs, sqT_same zh r1, ?_⟩)
    rw [← Option.some.inj h]
    have := dpAll_len z1
    cases vs <;> cases i <;> simp at this ⊢
  | dict i => exact hx.nodict.elim
end
end Mp

end
section
set_option Elab.async false
set_option linter.all false
set_option autoImplicit false
set_option maxRecDepth 100000
set_option maxHeartbeats 3200000
/-! MiniPy, part Ga: set(a list of ints), sorted(set(..)). -/
namespace Mp
open PySem PySem.Spec PyProof.Rows L2
open Builtin

section
variable {P : Program} {w : World} {A : Around} {E : Value → Shared → Prop} {s : Shared}
abbrev setOb (w : World) : Obj := { cls := .type "set", dict := none, data := .set #[] 0 (.fresh 0 0 (!w.params.followText "set-order")) }
/-- what the filling of the new set leaves -/
abbrev Filled (w : World) (s : Shared) (ns : List Int) (r : Value) (s2 : Shared) : Prop :=
  r = .none ∧ ∃ h2 tk c, s2 = { s with heap := h2, toks := tk } ∧ SetR w h2 s.heap.objs.size (fun j => decide (j ∈ ns)) c ∧ c ≤ ns.length ∧ ∀ b o, s.heap.get? b = some o → h2.get? b = some o
theorem set_list_ints {l : Addr} {its : Array Value} {ns : List Int} {Q : Value → Shared → Prop} (hd : A.handled = none) (hl : s.heap.IsList l its) (hi : IntsAre its.toList ns) (few : ns.length + 1 < scanBound)
    (q : ∀ (h2 : Heap) (tk c : Nat), SetR w h2 s.heap.objs.size (fun j => decide (j ∈ ns)) c → c ≤ ns.length → (∀ b o, s.heap.get? b = some o → h2.get? b = some o) → Q (.ref s.heap.objs.size) { s with heap := h2, toks := tk }) :
    wpAny (model P w) A (call (.type "set") [.ref l]) Q E s := by
  obtain ⟨cc, tl, hmro⟩ := F.called_set.mro
  have made := F.called_set.made
  have sub := F.called_set.sub
  have notTy := F.called_set.notType
  have can := F.called_set.canCreate
  have bound := F.typeCall_set_1 (.ref l)
  refine wpAny_call (codeAny_of_tree ?_)
  show wpAny _ _ (callAny (.type "set") _) _ _ _
  refine wpAny_pure ⟨Code.quiet_builtin _ (by decide +kernel), codeAny_builtin F.entry_type_call ?_⟩
  rw [Around.under_plain (weight_type_call_type "set" [.ref l] []) rfl]
  repeat (any_goals (first | assumption | wp_step))
  have laid : (s.heap.push (setOb w)).get? s.heap.objs.size = some (setOb w) := Heap.get?_push_size _ rfl
  refine codeAny_mono (code_set_led1 (.ref l) (E := E) (Q₁ := fun v s1 => v = .ref s.heap.objs.size ∧ s1 = { s with heap := s.heap.push (setOb w) }) ⟨rfl, rfl⟩) fun r s1 hr => ?_
  match r, hr with
  | .error e, hr => exact hr
  | .ok (.ret v), ⟨e1, e2⟩ =>
    subst e1
    subst e2
    have ty : Shared.TypeIs { s with heap := s.heap.push (setOb w) } (.ref s.heap.objs.size) "set" := ⟨_, laid, rfl⟩
    have look := F.called_set.init.lookup
    have binds := F.called_set.init.bind (.ref s.heap.objs.size)
    repeat (any_goals (first | assumption | wp_step))
    refine codeAny_mono (codeAny_call_builtin (R := wants (Filled w s ns) E) F.called_set.init.plain F.entry_set_init (check_set_init_1 ty ?_)) fun r2 s2 h2 => ?_
    · obtain ⟨ol, hol, hcl, nl, hdl⟩ := hl
      obtain ⟨c0, d0, t0, x0⟩ := ol
      cases hcl
      cases hdl
      have lup : (s.heap.push (setOb w)).get? l = some { cls := .type "list", dict := d0, data := .seq its nl, slots := x0 } := Heap.get?_push_of_some _ hol
      have p1 := F.sub_list_set
      have p2 := F.sub_list_frozenset
      have p3 : (Value.type "list" == Value.type "dict") = false := by decide
      have lis : (s.heap.push (setOb w)).IsList l its := ⟨_, lup, rfl, nl, rfl⟩
      unfold Builtin.«set.__init__» noKeywords Builtin.Frozenset.updateFrom
      generalize hPI : pyIter = PI
      wp_walk
      subst hPI
      refine wpAny_pyIter_list lis ?_
      refine wpAny_bind (wpAny_runValue ?_)
      have sz : (s.heap.push (setOb w)).objs.size = s.heap.objs.size + 1 := Heap.size_push ..
      have ll : l < s.heap.objs.size := Heap.lt_size hol
      have nI : l ≠ (s.heap.push (setOb w)).objs.size := by rw [sz]; exact Nat.ne_of_lt (Nat.lt_succ_of_lt ll)
      have nS : s.heap.objs.size ∉ [(s.heap.push (setOb w)).objs.size, l] := by
        rw [sz]
        simp only [List.mem_cons, List.not_mem_nil, or_false, not_or]
        exact ⟨Nat.ne_of_lt (Nat.lt_succ_self _), Nat.ne_of_gt ll⟩
      have len : its.size = ns.length := by
        have z := IntsAre.length hi
        simpa using z
      have val : ∀ (i : Nat) (v : Value), its[i]? = some v → ∃ k t, ns[i]? = some k ∧ v = .int k t := by
        intro i v hv
        have hlt : i < ns.length := by have := (Array.getElem?_eq_some_iff.mp hv).1; omega
        obtain ⟨t, e⟩ := PyProof.Rows.IntsAre.int_at hi i v (by simpa using hv)
        have eg : ns.getD i 0 = ns[i] := by simp [List.getD_eq_getElem?_getD, hlt]
        exact ⟨ns[i], t, List.getElem?_eq_getElem hlt, by rw [e, eg]⟩
      have quiet3 : A.in1.in1.in1.handled = none := by simp [hd]
      refine set_update_ints ((Walks.list quiet3 _ l nI its).toS) s.heap.objs.size nS ns len few val (its.size - 0) 0 _ (by omega) (Nat.zero_le _)
        ⟨⟨_, Heap.get?_push_size _ rfl, rfl, rfl⟩, lis.push _⟩ ⟨0, Nat.le_refl 0, setR_new_at (Heap.get?_push_of_some _ laid)⟩ fun s3 c hm hc hS => ?_
      obtain ⟨h3, g3, d3, tk3, os3⟩ := s3
      obtain rfl : g3 = s.gens := hm.gens
      obtain rfl : d3 = s.drawn := hm.drawn
      obtain rfl : os3 = s.os := hm.os
      show wpAny _ _ _ _ _ _
      refine wpAny_pure ?_
      show wpAny _ _ (ret Value.none) _ _ _
      refine wpAny_pure ⟨rfl, h3, tk3, c, rfl, hS, by omega, fun b o e => ?_⟩
      have hb := Heap.lt_size e
      refine hm.heap b o ?_ (Heap.get?_push_of_some _ (Heap.get?_push_of_some _ e))
      simp only [List.mem_cons, List.not_mem_nil, or_false, not_or]
      exact ⟨Nat.ne_of_lt hb, by rw [sz]; exact Nat.ne_of_lt (Nat.lt_succ_of_lt hb)⟩
    · match r2, h2 with
      | .error e, h2 => exact h2
      | .ok (.ret v2), h2 =>
        obtain ⟨e3, hh, tk, c, e4, hS, hc, hk⟩ := h2
        subst e3
        subst e4
        repeat (any_goals (first | assumption | wp_step))
        exact q _ _ _ hS hc hk
end
end Mp

end
section
set_option Elab.async false
set_option linter.all false
set_option maxRecDepth 100000
set_option autoImplicit false
/-! MiniPy, part H: built-in functions and methods over data, as rules by values. -/
namespace Mp
open PySem PySem.Spec PyProof.Rows L2

def biName : Bi → Str
  | .len => "len"
  | .abs => "abs"
  | .int => "int"
  | .str => "str"
  | .repr => "repr"
  | .sum => "sum"
  | .any => "any"
  | .all => "all"
  | .min2 => "min"
  | .max2 => "max"
  | .minL => "min"
  | .maxL => "max"
  | .sorted => "sorted"
  | .list => "list"
  | .tuple => "tuple"
def biV : Bi → Value
  | .len => .builtin "len"
  | .abs => .builtin "abs"
  | .int => .type "int"
  | .str => .type "str"
  | .repr => .builtin "repr"
  | .sum => .builtin "sum"
  | .any => .builtin "any"
  | .all => .builtin "all"
  | .min2 => .builtin "min"
  | .max2 => .builtin "max"
  | .minL => .builtin "min"
  | .maxL => .builtin "max"
  | .sorted => .builtin "sorted"
  | .list => .type "list"
  | .tuple => .type "tuple"
theorem biBoot (f : Bi) : bootBuiltins (biName f) = some (biV f) := by cases f <;> decide +kernel

/-! ### sorting -/
theorem insI_perm (x : Int) : ∀ l : List Int, (insI x l).Perm (x :: l)
  | [] => .refl _
  | y :: r => by
    unfold insI
    split
    · exact .refl _
    · exact ((insI_perm x r).cons y).trans (.swap x y r)
theorem sortI_perm : ∀ l : List Int, (sortI l).Perm l
  | [] => .refl _
  | x :: r => (insI_perm x (sortI r)).trans ((sortI_perm r).cons x)
theorem insI_up (x : Int) : ∀ {l : List Int}, l.Pairwise (· ≤ ·) → (insI x l).Pairwise (· ≤ ·)
  | [], _ => by simp [insI]
  | y :: r, h => by
    rw [List.pairwise_cons] at h
    unfold insI
    split
    · rename_i q
      rw [List.pairwise_cons]
      refine ⟨fun z hz => ?_, by rw [List.pairwise_cons]; exact h⟩
      rcases List.mem_cons.mp hz with rfl | hz
      · exact q
      · exact Int.le_trans q (h.1 z hz)
    · rename_i q
      rw [List.pairwise_cons]
      refine ⟨fun z hz => ?_, insI_up x h.2⟩
      rcases List.mem_cons.mp ((insI_perm x r).mem_iff.mp hz) with rfl | hz
      · omega
      · exact h.1 z hz
theorem sortI_up : ∀ l : List Int, (sortI l).Pairwise (· ≤ ·)
  | [] => .nil
  | x :: r => insI_up x (sortI_up r)
theorem sorted_one : ∀ {a b : List Int}, a.Perm b → a.Pairwise (· ≤ ·) → b.Pairwise (· ≤ ·) → a = b
  | [], b, p, _, _ => (List.Perm.nil_eq p)
  | x :: a, [], p, _, _ => absurd p.length_eq (by simp)
  | x :: a, y :: b, p, ha, hb => by
    rw [List.pairwise_cons] at ha hb
    have h1 : x ≤ y := by
      rcases List.mem_cons.mp (p.symm.mem_iff.mp (List.mem_cons_self : y ∈ y :: b)) with e | e
      · omega
      · exact ha.1 y e
    have h2 : y ≤ x := by
      rcases List.mem_cons.mp (p.mem_iff.mp (List.mem_cons_self : x ∈ x :: a)) with e | e
      · omega
      · exact hb.1 x e
    have e : x = y := by omega
    subst e
    rw [sorted_one (p.cons_inv) ha.2 hb.2]
theorem sortI_of {a ns : List Int} (p : a.Perm ns) (h : a.Pairwise (· ≤ ·)) : a = sortI ns := sorted_one (p.trans (sortI_perm ns).symm) h (sortI_up ns)

section
variable {X : Cx}
theorem paired1 {α β : Type} {R : α → β → Prop} {xs : List α} {y : β} (h : Paired R xs [y]) : ∃ x, xs = [x] ∧ R x y := by
  cases h with
  | cons a b => cases b; exact ⟨_, rfl, a⟩
theorem paired2 {α β : Type} {R : α → β → Prop} {xs : List α} {y z : β} (h : Paired R xs [y, z]) : ∃ x w, xs = [x, w] ∧ R x y ∧ R w z := by
  cases h with
  | cons a b =>
    obtain ⟨w, rfl, c⟩ := paired1 b
    exact ⟨_, _, rfl, a, c⟩
theorem lenR : CallR X (.builtin "len") (rPL X.K (opBi .len)) := by
  intro pins s σ H xs us Q I rx h
  obtain ⟨Z, ds, r, zh, hx, hr, g⟩ := h
  match ds, hx, hr with
  | [.list ds], hx, hr =>
    obtain ⟨x, rfl, hd⟩ := paired1 hx
    obtain ⟨a, vs, rfl, r1, z1⟩ := hd.list zh
    have e := Option.some.inj hr
    subst e
    exact call_len pins s σ H _ us Q I rx ⟨_, ds.length, rfl, .inl ⟨vs, .inl r1, (dpAll_len z1).symm⟩, g.1 _ (.int _)⟩
  | [.tuple ds], hx, hr =>
    obtain ⟨x, rfl, hd⟩ := paired1 hx
    obtain ⟨a, vs, rfl, r1, z1⟩ := hd.tup
    have e := Option.some.inj hr
    subst e
    exact call_len pins s σ H _ us Q I rx ⟨_, ds.length, rfl, .inr ⟨vs, sqT_same zh r1, (dpAll_len z1).symm⟩, g.1 _ (.int _)⟩
  | [.str z], hx, hr =>
    obtain ⟨x, rfl, hd⟩ := paired1 hx
    have ex := hd.str
    subst ex
    simp only [opBi] at hr
    split at hr
    · rename_i hz
      have e := Option.some.inj hr
      subst e
      exact call_len pins s σ H _ us Q I rx ⟨_, z.length, rfl, ⟨hz, rfl⟩, g.1 _ (.int _)⟩
    · cases hr
  | [], hx, hr => simp [opBi] at hr
  | [.none], hx, hr => simp [opBi] at hr
  | [.bool _], hx, hr => simp [opBi] at hr
  | [.int _], hx, hr => simp [opBi] at hr
  | [.dict _], hx, hr => simp [opBi] at hr
  | _ :: _ :: _, hx, hr => simp [opBi] at hr
theorem absR : CallR X (.builtin "abs") (rPL X.K (opBi .abs)) := by
  intro pins s σ H xs us Q I rx h
  obtain ⟨Z, ds, r, zh, hx, hr, g⟩ := h
  match ds, hx, hr with
  | [.int i], hx, hr =>
    obtain ⟨x, rfl, hd⟩ := paired1 hx
    have ex := hd.int
    subst ex
    have e := Option.some.inj hr
    subst e
    exact call_abs pins s σ H _ us Q I rx ⟨i, rfl, g.1 _ (.int _)⟩
  | [], hx, hr => simp [opBi] at hr
  | [.none], hx, hr => simp [opBi] at hr
  | [.bool _], hx, hr => simp [opBi] at hr
  | [.str _], hx, hr => simp [opBi] at hr
  | [.list _], hx, hr => simp [opBi] at hr
  | [.tuple _], hx, hr => simp [opBi] at hr
  | [.dict _], hx, hr => simp [opBi] at hr
  | _ :: _ :: _, hx, hr => simp [opBi] at hr
theorem intR : CallR X (.type "int") (rPL X.K (opBi .int)) := by
  intro pins s σ H xs us Q I rx h
  obtain ⟨Z, ds, r, zh, hx, hr, g⟩ := h
  match ds, hx, hr with
  | [.int i], hx, hr =>
    obtain ⟨x, rfl, hd⟩ := paired1 hx
    have ex := hd.int
    subst ex
    have e := Option.some.inj hr
    subst e
    exact call_int1 pins s σ H _ us Q I rx (.inl ⟨i, rfl, g.1 _ (.int _)⟩)
  | [.bool i], hx, hr =>
    obtain ⟨x, rfl, hd⟩ := paired1 hx
    have ex := hd.bool
    subst ex
    have e := Option.some.inj hr
    subst e
    exact call_int1 pins s σ H _ us Q I rx (.inr ⟨i, rfl, g.1 _ (.int _)⟩)
  | [.str i], hx, hr =>
    obtain ⟨x, rfl, hd⟩ := paired1 hx
    have ex := hd.str
    subst ex
    simp only [opBi] at hr
    split at hr
    · rename_i hz
      obtain ⟨n, e1, rfl⟩ := Option.map_eq_some_iff.mp hr
      exact call_int_str pins s σ H _ us Q I rx ⟨i, n, rfl, e1, hz, g.1 _ (.int _)⟩
    · cases hr
  | [], hx, hr => simp [opBi] at hr
  | [.none], hx, hr => simp [opBi] at hr
  | [.list _], hx, hr => simp [opBi] at hr
  | [.tuple _], hx, hr => simp [opBi] at hr
  | [.dict _], hx, hr => simp [opBi] at hr
  | _ :: _ :: _, hx, hr => simp [opBi] at hr
theorem strR : CallR X (.type "str") (rPL X.K (opBi .str)) := by
  intro pins s σ H xs us Q I rx h
  obtain ⟨Z, ds, r, zh, hx, hr, g⟩ := h
  match ds, hx, hr with
  | [.int i], hx, hr =>
    obtain ⟨x, rfl, hd⟩ := paired1 hx
    have ex := hd.int
    subst ex
    simp only [opBi] at hr
    split at hr
    · rename_i hz
      have e := Option.some.inj hr
      subst e
      exact call_str_int pins s σ H _ us Q I rx ⟨i, rfl, hz, g.1 _ (.str _)⟩
    · cases hr
  | [.str i], hx, hr =>
    obtain ⟨x, rfl, hd⟩ := paired1 hx
    have ex := hd.str
    subst ex
    have e := Option.some.inj hr
    subst e
    exact SkE.call_str_str pins s σ H _ us Q I rx ⟨i, rfl, g.1 _ (.str _)⟩
  | [], hx, hr => simp [opBi] at hr
  | [.none], hx, hr => simp [opBi] at hr
  | [.bool _], hx, hr => simp [opBi] at hr
  | [.list _], hx, hr => simp [opBi] at hr
  | [.tuple _], hx, hr => simp [opBi] at hr
  | [.dict _], hx, hr => simp [opBi] at hr
  | _ :: _ :: _, hx, hr => simp [opBi] at hr
/-- one list in -/
theorem listArg {f : List PyData → Option PyData} {Q : VK} {H : Hp} {xs : List V} (only : ∀ ds r, f ds = some r → ∃ l, ds = [.list l]) (h : rPL X.K f xs H Q) :
    ∃ Z a vs l r, xs = [.ref a] ∧ Same Z H ∧ Rd H a (.lst vs) ∧ DzAll X.K Z vs l ∧ f [.list l] = some r ∧ Gives X.K Z H r Q := by
  obtain ⟨Z, ds, r, zh, hx, hr, g⟩ := h
  obtain ⟨l, rfl⟩ := only ds r hr
  obtain ⟨x, rfl, hd⟩ := paired1 hx
  obtain ⟨a, vs, rfl, r1, z1⟩ := hd.list zh
  exact ⟨Z, a, vs, l, r, rfl, zh, r1, z1, hr, g⟩
theorem sumR (hc : X.calm = true) : CallR X (.builtin "sum") (rPL X.K (opBi .sum)) := by
  intro pins s σ H xs us Q I rx h
  obtain ⟨Z, a, vs, l, r, rfl, zh, r1, z1, hr, g⟩ := listArg (fun ds r h => by unfold opBi at h; split at h <;> first | contradiction | exact ⟨_, rfl⟩) h
  obtain ⟨ns, e1, rfl⟩ := Option.map_eq_some_iff.mp (show (intsOf l).map _ = some r from hr)
  have e := dzInts z1 e1
  subst e
  exact cr_sum hc pins s σ H _ us Q I rx ⟨a, ns, rfl, .inl r1, g.1 _ (.int _)⟩
theorem anyR (hc : X.calm = true) : CallR X (.builtin "any") (rPL X.K (opBi .any)) := by
  intro pins s σ H xs us Q I rx h
  obtain ⟨Z, a, vs, l, r, rfl, zh, r1, z1, hr, g⟩ := listArg (fun ds r h => by unfold opBi at h; split at h <;> first | contradiction | exact ⟨_, rfl⟩) h
  obtain ⟨ns, e1, rfl⟩ := Option.map_eq_some_iff.mp (show (boolsOf l).map _ = some r from hr)
  have e := dzBools z1 e1
  subst e
  exact cr_any hc pins s σ H _ us Q I rx ⟨a, ns, rfl, .inl r1, g.1 _ (.bl _)⟩
theorem allR (hc : X.calm = true) : CallR X (.builtin "all") (rPL X.K (opBi .all)) := by
  intro pins s σ H xs us Q I rx h
  obtain ⟨Z, a, vs, l, r, rfl, zh, r1, z1, hr, g⟩ := listArg (fun ds r h => by unfold opBi at h; split at h <;> first | contradiction | exact ⟨_, rfl⟩) h
  obtain ⟨ns, e1, rfl⟩ := Option.map_eq_some_iff.mp (show (boolsOf l).map _ = some r from hr)
  have e := dzBools z1 e1
  subst e
  exact cr_all hc pins s σ H _ us Q I rx ⟨a, ns, rfl, .inl r1, g.1 _ (.bl _)⟩
theorem sortedR : CallR X (.builtin "sorted") (rPL X.K (opBi .sorted)) := by
  intro pins s σ H xs us Q I rx h
  obtain ⟨Z, a, vs, l, r, rfl, zh, r1, z1, hr, g⟩ := listArg (fun ds r h => by unfold opBi at h; split at h <;> first | contradiction | exact ⟨_, rfl⟩) h
  obtain ⟨ns, e1, rfl⟩ := Option.map_eq_some_iff.mp (show (intsOf l).map _ = some r from hr)
  have e := dzInts z1 e1
  subst e
  refine cr_sortedI pins s σ H _ us Q I rx ⟨a, ns, rfl, .inl r1, fun ns' p pm up hp => ?_⟩
  rw [sortI_of pm up]
  exact g.lst zh (dzOfInts _) hp
theorem twoInts {f : List PyData → Option PyData} {Q : VK} {H : Hp} {xs : List V} (only : ∀ ds r, f ds = some r → ∃ i j, ds = [.int i, .int j]) (h : rPL X.K f xs H Q) :
    ∃ Z i j r, xs = [.int i, .int j] ∧ f [.int i, .int j] = some r ∧ Gives X.K Z H r Q := by
  obtain ⟨Z, ds, r, zh, hx, hr, g⟩ := h
  obtain ⟨i, j, rfl⟩ := only ds r hr
  obtain ⟨x, w, rfl, h1, h2⟩ := paired2 hx
  have e1 := h1.int
  have e2 := h2.int
  subst e1; subst e2
  exact ⟨Z, i, j, r, rfl, hr, g⟩
theorem minR (hc : X.calm = true) : CallR X (.builtin "min") (rPL X.K (opBi .min2)) := by
  intro pins s σ H xs us Q I rx h
  obtain ⟨Z, i, j, r, rfl, hr, g⟩ := twoInts (fun ds r h => by unfold opBi at h; split at h <;> first | contradiction | exact ⟨_, _, rfl⟩) h
  have e := Option.some.inj hr
  subst e
  exact call_min2 hc pins s σ H _ us Q I rx ⟨i, j, rfl, g.1 _ (.int _)⟩
theorem maxR (hc : X.calm = true) : CallR X (.builtin "max") (rPL X.K (opBi .max2)) := by
  intro pins s σ H xs us Q I rx h
  obtain ⟨Z, i, j, r, rfl, hr, g⟩ := twoInts (fun ds r h => by unfold opBi at h; split at h <;> first | contradiction | exact ⟨_, _, rfl⟩) h
  have e := Option.some.inj hr
  subst e
  exact call_max2 hc pins s σ H _ us Q I rx ⟨i, j, rfl, g.1 _ (.int _)⟩
theorem listR : CallR X (.type "list") (rPL X.K (opBi .list)) := by
  intro pins s σ H xs us Q I rx h
  obtain ⟨Z, ds, r, zh, hx, hr, g⟩ := h
  match ds, hx, hr with
  | [.list ds], hx, hr =>
    obtain ⟨x, rfl, hd⟩ := paired1 hx
    obtain ⟨a, vs, rfl, r1, z1⟩ := hd.list zh
    have e := Option.some.inj hr
    subst e
    exact call_list_of pins s σ H _ us Q I rx ⟨a, vs, rfl, .inl (.inl r1), fun p hp => g.lst zh z1 hp⟩
  | [.tuple ds], hx, hr =>
    obtain ⟨x, rfl, hd⟩ := paired1 hx
    obtain ⟨a, vs, rfl, r1, z1⟩ := hd.tup
    have e := Option.some.inj hr
    subst e
    exact call_list_of pins s σ H _ us Q I rx ⟨a, vs, rfl, .inr (sqT_same zh r1), fun p hp => g.lst zh z1 hp⟩
  | [], hx, hr => simp [opBi] at hr
  | [.none], hx, hr => simp [opBi] at hr
  | [.bool _], hx, hr => simp [opBi] at hr
  | [.int _], hx, hr => simp [opBi] at hr
  | [.str _], hx, hr => simp [opBi] at hr
  | [.dict _], hx, hr => simp [opBi] at hr
  | _ :: _ :: _, hx, hr => simp [opBi] at hr
theorem tupleR : CallR X (.type "tuple") (rPL X.K (opBi .tuple)) := by
  intro pins s σ H xs us Q I rx h
  obtain ⟨Z, ds, r, zh, hx, hr, g⟩ := h
  match ds, hx, hr with
  | [.list ds], hx, hr =>
    obtain ⟨x, rfl, hd⟩ := paired1 hx
    obtain ⟨a, vs, rfl, r1, z1⟩ := hd.list zh
    have e := Option.some.inj hr
    subst e
    exact call_tuple_of pins s σ H _ us Q I rx ⟨a, vs, rfl, .inl ⟨.inl r1, fun p hp => g.tup zh z1 hp⟩⟩
  | [.tuple ds], hx, hr =>
    obtain ⟨x, rfl, hd⟩ := paired1 hx
    obtain ⟨a, vs, rfl, r1, z1⟩ := hd.tup
    have e := Option.some.inj hr
    subst e
    exact call_tuple_of pins s σ H _ us Q I rx ⟨a, vs, rfl, .inr ⟨sqT_same zh r1, g.1 _ (.tup r1 z1)⟩⟩
  | [], hx, hr => simp [opBi] at hr
  | [.none], hx, hr => simp [opBi] at hr
  | [.bool _], hx, hr => simp [opBi] at hr
  | [.int _], hx, hr => simp [opBi] at hr
  | [.str _], hx, hr => simp [opBi] at hr
  | [.dict _], hx, hr => simp [opBi] at hr
  | _ :: _ :: _, hx, hr => simp [opBi] at hr

/-! ### methods of texts -/
def mtName : Mt → Str
  | .join => "join"
  | .split => "split"
  | .strip => "strip"
  | .isdigit => "isdigit"
  | .isalpha => "isalpha"
  | .index => "index"
def rPM (K : PySem.W.Frag) (g : PyData → List PyData → Option PyData) : V → List V → Hp → VK → Prop := fun x xs H Q => ∃ Z d ds r, Same Z H ∧ Dq K Z H x d ∧ Paired (Dq K Z H) xs ds ∧ g d ds = some r ∧ Gives K Z H r Q
theorem joinR : MtR X "str.join" (rPM X.K (opMt .join)) := by
  intro pins s σ H x xs v us Q I rx rs h
  obtain ⟨Z, d, ds, r, zh, hx, hs, hr, g⟩ := h
  match d, ds, hx, hs, hr with
  | .str a, [.list l], hx, hs, hr =>
    have ex := hx.str
    subst ex
    obtain ⟨w, rfl, hd⟩ := paired1 hs
    obtain ⟨p, vs, rfl, r1, z1⟩ := hd.list zh
    simp only [opMt] at hr
    cases q : strsOf l with
    | none => rw [q] at hr; simp at hr
    | some ys =>
      rw [q] at hr
      simp only at hr
      split at hr
      · rename_i hz
        have e := Option.some.inj hr
        subst e
        have e2 := dzStrs z1 q
        subst e2
        exact mt_join pins s σ H _ _ v us Q I rx rs ⟨a, p, ys, rfl, rfl, .inl (.inl r1), hz, g.1 _ (.str _)⟩
      · cases hr
  | .str _, [], _, _, hr => simp [opMt] at hr
  | .str _, [.none], _, _, hr => simp [opMt] at hr
  | .str _, [.bool _], _, _, hr => simp [opMt] at hr
  | .str _, [.int _], _, _, hr => simp [opMt] at hr
  | .str _, [.str _], _, _, hr => simp [opMt] at hr
  | .str _, [.tuple _], _, _, hr => simp [opMt] at hr
  | .str _, [.dict _], _, _, hr => simp [opMt] at hr
  | .str _, _ :: _ :: _, _, _, hr => simp [opMt] at hr
  | .none, _, _, _, hr => simp [opMt] at hr
  | .bool _, _, _, _, hr => simp [opMt] at hr
  | .int _, _, _, _, hr => simp [opMt] at hr
  | .list _, _, _, _, hr => simp [opMt] at hr
  | .tuple _, _, _, _, hr => simp [opMt] at hr
  | .dict _, _, _, _, hr => simp [opMt] at hr
theorem mtS1 {f : PyData → List PyData → Option PyData} {Q : VK} {H : Hp} {x : V} {xs : List V} (only : ∀ d ds r, f d ds = some r → ∃ a b, d = .str a ∧ ds = [.str b]) (h : rPM X.K f x xs H Q) :
    ∃ Z a b r, Same Z H ∧ x = .str a ∧ xs = [.str b] ∧ f (.str a) [.str b] = some r ∧ Gives X.K Z H r Q := by
  obtain ⟨Z, d, ds, r, zh, hx, hs, hr, g⟩ := h
  obtain ⟨a, b, rfl, rfl⟩ := only d ds r hr
  obtain ⟨w, rfl, hd⟩ := paired1 hs
  have e1 := hx.str
  have e2 := hd.str
  subst e1; subst e2
  exact ⟨Z, a, b, r, zh, rfl, rfl, hr, g⟩
theorem mtS0 {f : PyData → List PyData → Option PyData} {Q : VK} {H : Hp} {x : V} {xs : List V} (only : ∀ d ds r, f d ds = some r → ∃ a, d = .str a ∧ ds = []) (h : rPM X.K f x xs H Q) :
    ∃ Z a r, Same Z H ∧ x = .str a ∧ xs = [] ∧ f (.str a) [] = some r ∧ Gives X.K Z H r Q := by
  obtain ⟨Z, d, ds, r, zh, hx, hs, hr, g⟩ := h
  obtain ⟨a, rfl, rfl⟩ := only d ds r hr
  cases hs
  have e1 := hx.str
  subst e1
  exact ⟨Z, a, r, zh, rfl, rfl, hr, g⟩
theorem splitR : MtR X "str.split" (rPM X.K (opMt .split)) := by
  intro pins s σ H x xs v us Q I rx rs h
  obtain ⟨Z, a, b, r, zh, rfl, rfl, hr, g⟩ := mtS1 (fun d ds r h => by unfold opMt at h; split at h <;> first | contradiction | exact ⟨_, _, rfl, rfl⟩) h
  simp only [opMt] at hr
  split at hr
  · rename_i hz
    have e := Option.some.inj hr
    subst e
    exact mt_split pins s σ H _ _ v us Q I rx rs ⟨a, b, rfl, rfl, hz.1, hz.2, fun p hp => g.lst zh (dzOfStrs _) hp⟩
  · cases hr
theorem stripR : MtR X "str.strip" (rPM X.K (opMt .strip)) := by
  intro pins s σ H x xs v us Q I rx rs h
  obtain ⟨Z, a, b, r, zh, rfl, rfl, hr, g⟩ := mtS1 (fun d ds r h => by unfold opMt at h; split at h <;> first | contradiction | exact ⟨_, _, rfl, rfl⟩) h
  simp only [opMt] at hr
  split at hr
  · rename_i hz
    have e := Option.some.inj hr
    subst e
    exact mt_stripChars pins s σ H _ _ v us Q I rx rs ⟨a, b, rfl, rfl, hz, g.1 _ (.str _)⟩
  · cases hr
theorem isdigitR : MtR X "str.isdigit" (rPM X.K (opMt .isdigit)) := by
  intro pins s σ H x xs v us Q I rx rs h
  obtain ⟨Z, a, r, zh, rfl, rfl, hr, g⟩ := mtS0 (fun d ds r h => by unfold opMt at h; split at h <;> first | contradiction | exact ⟨_, rfl, rfl⟩) h
  have e := Option.some.inj hr
  subst e
  exact mt_isdigit pins s σ H _ _ v us Q I rx rs ⟨a, rfl, rfl, trivial, g.1 _ (.bl _)⟩
theorem isalphaR : MtR X "str.isalpha" (rPM X.K (opMt .isalpha)) := by
  intro pins s σ H x xs v us Q I rx rs h
  obtain ⟨Z, a, r, zh, rfl, rfl, hr, g⟩ := mtS0 (fun d ds r h => by unfold opMt at h; split at h <;> first | contradiction | exact ⟨_, rfl, rfl⟩) h
  have e := Option.some.inj hr
  subst e
  exact mt_isalpha pins s σ H _ _ v us Q I rx rs ⟨a, rfl, rfl, trivial, g.1 _ (.bl _)⟩
/-- repr of data, where no repr runs -/
theorem reprR (hg : X.A.guards = some []) (hu : X.A.units + 65 < cLine) : CallR X (.builtin "repr") (rPL X.K fun ds => match ds with
    | [d] => if (SeqAt.shaped d && d.showable && decide (d.shown.length ≤ sizeLine)) = true then some (.str d.shown) else none
    | _ => none) := by
  intro pins s σ H xs us Q I rx h
  obtain ⟨Z, ds, r, zh, hx, hr, g⟩ := h
  match ds, hx, hr with
  | [d], hx, hr =>
    obtain ⟨x, rfl, hd⟩ := paired1 hx
    simp only at hr
    split at hr
    · rename_i hz
      simp only [Bool.and_eq_true, decide_eq_true_eq] at hz
      have e := Option.some.inj hr
      subst e
      obtain ⟨u, rfl, ru⟩ := rx.one
      obtain ⟨as, R⟩ := Dp.reads I d x u (hd.dz zh).dp ru
      have hdep := SeqAt.depth_of_shaped hz.1.1
      have hlay := SeqAt.canLay_of_shaped hz.1.1
      have hnd := PyData.noDict_hsm (PyData.hasDict_of_canLay d hlay) (as := as)
      have fin : ∀ (h' : Heap) (t : Tok) (tk : Nat), (∀ b o, s.heap.get? b = some o → h'.get? b = some o) → EP X pins σ Q (.str d.shown t) { s with heap := h', toks := tk } := fun h' t tk hk =>
        ⟨.str d.shown, H, I.kept hk, ⟨t, rfl⟩, g.1 _ (.str _)⟩
      have viaRef : ∀ a, u = .ref a → wpAny (model X.prog X.w) X.A (call (.builtin "repr") [u]) (EP X pins σ Q) X.xe s := fun a e => by
        subst e
        exact repr_of_reads' R hz.1.2 hnd hg (by omega) (fun _ _ e => e) (fun h' t tk hk => fin h' t tk hk) hz.2
      cases d with
      | none =>
        have e := hd.non
        subst e
        cases ru
        exact PySem.P.repr_of_none (fin s.heap _ _ fun _ _ e => e)
      | bool b =>
        have e := hd.bool
        subst e
        cases ru
        exact PySem.P.repr_of_bool (fin s.heap _ _ fun _ _ e => e)
      | int i =>
        have e := hd.int
        subst e
        obtain ⟨t, rfl⟩ := ru
        exact PySem.P.repr_of_int (by simpa [PyData.showable] using hz.1.2) (fin s.heap _ _ fun _ _ e => e)
      | str i =>
        have e := hd.str
        subst e
        obtain ⟨t, rfl⟩ := ru
        exact PySem.P.repr_of_str (fin s.heap _ _ fun _ _ e => e) hz.2
      | list l =>
        obtain ⟨a, vs, rfl, _⟩ := hd.list zh
        exact viaRef a ru
      | tuple l =>
        obtain ⟨a, vs, rfl, _⟩ := hd.tup
        exact viaRef a ru
      | dict l => exact hd.nodict.elim
    · cases hr
  | [], hx, hr => simp at hr
  | _ :: _ :: _, hx, hr => simp at hr
end
end Mp

end
section
set_option Elab.async false
set_option linter.all false
set_option autoImplicit false
set_option maxRecDepth 100000
/-! MiniPy, part Ha: sorted(set(a list of ints)). -/
namespace Mp
open PySem PySem.Spec PyProof.Rows L2
theorem uniqI_mem {k : Int} : ∀ {ns : List Int}, k ∈ uniqI ns ↔ k ∈ ns
  | [] => Iff.rfl
  | x :: r => by
    unfold uniqI
    split
    · rename_i h
      rw [uniqI_mem (ns := r), List.mem_cons]
      exact ⟨.inr, fun z => z.elim (fun e => by rw [e]; exact h) id⟩
    · rw [List.mem_cons, List.mem_cons, uniqI_mem (ns := r)]
theorem uniqI_nodup : ∀ ns : List Int, (uniqI ns).Nodup
  | [] => List.nodup_nil
  | x :: r => by
    unfold uniqI
    split
    · exact uniqI_nodup r
    · rename_i h
      exact List.nodup_cons.mpr ⟨fun z => h (uniqI_mem.mp z), uniqI_nodup r⟩
theorem perm_of_mem {a b : List Int} (ha : a.Nodup) (hb : b.Nodup) (h : ∀ k, k ∈ a ↔ k ∈ b) : a.Perm b := (List.perm_ext_iff_of_nodup ha hb).mpr h
def tSset (K : PySem.W.Frag) (ta : TE) : TE := fun σ H Q => ta σ H fun x H1 => ∃ (l : Addr) (ns : List Int), x = .ref l ∧ SqL K H1 l (ns.map V.int) ∧ ns.length < 4000 ∧ (uniqI ns).length < 64 ∧ ∀ p, H1 p = none → Q (.ref p) (upd H1 p (.lst ((setI ns).map V.int)))
theorem pe_sset {X : Cx} {a : Expr} {ta : TE} {p p2 q pos : Pos} (hg : L2.Gl X "sorted") (hm : X.mg "sorted" = none) (hg2 : L2.Gl X "set") (hm2 : X.mg "set" = none) (ha : PE X a ta) (hc : X.calm = true)
    (na : starEach [a] X.env = (false, eval a X.env) :: starEach [] X.env := by rfl) : PE X (.Call (.Name "sorted" p) [.Call (.Name "set" p2) [a] [] q] [] pos) (tSset X.K ta) := by
  refine ⟨fun pins s σ H Q I h => ?_⟩
  refine Call_ (ld_blt (u := .builtin "sorted") I hg hm (by decide +kernel) ?_)
  refine PyProof.Rows.callWith_builtin1 (PyProof.Rows.args_cons ?_ rfl) rfl rfl
  refine Call_ (ld_blt I hg2 hm2 boot_set ?_)
  refine PyProof.Rows.callWith_type1 (PyProof.Rows.args_cons (thn (ha.run pins s σ H _ I h) fun v s1 ⟨x, H1, I1, r1, q1⟩ => PyProof.Rows.args_nil ?_) na) na rfl
  obtain ⟨l, ns, rfl, hq, h4, h64, q1⟩ := q1
  cases r1
  obtain ⟨its, r, pl, hz⟩ := I1.list hq
  refine set_list_ints (ns := ns) (I1.ok.hd hc) pl.isList (ints_of_vals r) (by unfold scanBound; omega) fun h2 tk c R1 hcn k => ?_
  refine PyProof.Rows.args_nil ?_
  have I2 : Inv X pins σ H1 { s1 with heap := h2, toks := tk } := I1.kept fun b o e => k b o e
  have hcu : c = (uniqI ns).length := by
    obtain ⟨o, es, ep, t, ho, hex, hdt, g, nd, hm3, hb, hf, hn, hr, hl2⟩ := R1
    have pm := perm_of_mem nd (uniqI_nodup ns) fun k => by rw [← hm3 k, decide_eq_true_eq, uniqI_mem]
    have := pm.length_eq
    simp only [List.length_map, Array.length_toList] at this
    omega
  subst hcu
  have R2 : SetR X.w ({ s1 with heap := h2, toks := tk } : Shared).heap s1.heap.objs.size (fun j => decide (j ∈ ns)) (uniqI ns).length := R1
  generalize ({ s1 with heap := h2, toks := tk } : Shared) = s2 at I2 R2 ⊢
  refine sorted_set R2 (I2.ok.hd hc) h64 fun s3 p3 out cc ks k3 g o3 hp hgt hi hs hmm hl => ?_
  have ek : ks = setI ns := by
    have pm : ks.Perm (uniqI ns) := perm_of_mem (hs.imp fun hlt => Int.ne_of_lt hlt) (uniqI_nodup ns) fun k => by rw [hmm k, decide_eq_true_eq, uniqI_mem]
    exact sortI_of pm (hs.imp fun hlt => Int.le_of_lt hlt)
  subst ek
  have small : ((setI ns).map V.int).length ≤ sizeLine := by rw [List.length_map, hl, sizeLine_eq]; omega
  have fresh : H1 p3 = none := I2.hok.fresh hp
  have J : Inv X pins σ (upd H1 p3 (.lst ((setI ns).map V.int))) { s2 with heap := s3.heap, gens := s3.gens, drawn := s3.drawn, toks := s3.toks } :=
    I2.call (ch := []) (Un.laid k3 hp fresh) (I2.hok.laid k3 hp ⟨small, out.toList, cc, vals_of_ints hi, hgt⟩) (by rw [g]; exact I2.bare) (fun _ z => nomatch z)
  have e : s3 = { s2 with heap := s3.heap, gens := s3.gens, drawn := s3.drawn, toks := s3.toks } := by
    cases s3
    cases s2
    cases o3
    rfl
  rw [e]
  exact ⟨.ref p3, _, J, rfl, q1 p3 fresh⟩
end Mp

end
section
set_option Elab.async false
set_option linter.all false
set_option maxRecDepth 100000
set_option autoImplicit false
/-! MiniPy, part I: how the small language reads the text. -/
namespace Mp
open PySem PySem.Spec PyProof.Rows L2

def visB (sc : Scope) (x : Str) : Bool := match sc.names.lookup x with
  | some .local => true
  | some .cell => true
  | some .free => true
  | _ => false
def nameB (N : List Str) (sc : Scope) (i : Nat) (x : Str) : Bool := decide (N[i]? = some x) && visB sc x && !(x == ("__debug__" : Str)) && !(x == ("__classdict__" : Str))
def globB (sc : Scope) (x : Str) : Bool := decide (sc.names.lookup x = some .globalImplicit) && !(x == ("__debug__" : Str)) && decide (x ≠ ("__name__" : Str))
/-- not read otherwise as a test -/
def plT : Expr → Bool
  | .UnaryOp .Not _ _ => false
  | .BoolOp _ _ _ => false
  | .IfExp _ _ _ _ => false
  | .Compare _ _ _ _ => false
  | _ => true
def plI : Expr → Bool
  | .Slice _ _ _ _ => false
  | _ => true
def plB : Expr → Bool
  | .Call (.Name _ _) [] [] _ => false
  | _ => true
def plS : Expr → Bool
  | .Starred _ _ => false
  | _ => true
def plM : Expr → Bool
  | .Set _ _ _ => false
  | _ => true
def conD : Const → Option PyData
  | .none => some .none
  | .bool b => some (.bool b)
  | .int i => some (.int i)
  | .str x => some (.str x)
  | _ => none
/-- a constant's data is this one -/
def sameC : PyData → PyData → Bool
  | .none, .none => true
  | .bool a, .bool b => decide (a = b)
  | .int a, .int b => decide (a = b)
  | .str a, .str b => decide (a = b)
  | _, _ => false
theorem sameC_eq {a b : PyData} (h : sameC a b = true) : a = b := by
  cases a <;> cases b <;> simp [sameC] at h <;> first | rfl | (subst h; rfl)
def mtZero : Mt → Bool
  | .isdigit => true
  | .isalpha => true
  | _ => false
def mtOne : Mt → Bool
  | .join => true
  | .split => true
  | .strip => true
  | _ => false

/-- a target that is a name -/
def locB (N : List Str) (sc : Scope) (fl : Str → Bool) (i : Nat) (x : Str) : Bool := decide (N[i]? = some x) && (decide (sc.names.lookup x = some .local) || (fl x && decide (sc.names.lookup x = some .cell)))
def chkN (N : List Str) (sc : Scope) (fl : Str → Bool) : E → Expr → Bool
  | .tvar i, .Name x _ => locB N sc fl i x
  | _, _ => false
def chkNs (N : List Str) (sc : Scope) (fl : Str → Bool) : E → List Expr → Bool
  | .nil, [] => true
  | .cons a r, x :: xs => chkN N sc fl a x && chkNs N sc fl r xs
  | _, _ => false
/-- what a for or a comprehension stores to: a name, a tuple of names -/
def chkB (N : List Str) (sc : Scope) (fl : Str → Bool) : E → Expr → Bool
  | .tvar i, .Name x _ => locB N sc fl i x
  | .cons a r, .Tuple xs _ _ => chkNs N sc fl (.cons a r) xs
  | _, _ => false
def sub1 (m : E) (own : List (Str × Nat)) : Bool := (tgtsOf m).all fun i => (own.map (·.2)).contains i
def isNil : E → Bool
  | .nil => true
  | _ => false
def ifsB (z : Bool) (f : Expr → Bool) : List Expr → Bool
  | [] => z
  | [x] => f x
  | _ => false
def ownCells (scope : Scope) : Str → Bool := fun x => scope.names.lookup x == some .cell

mutual
def chkE (N : List Str) (sc : Scope) : E → Expr → Bool
  | .con d, .Constant c _ _ => match conD c with
    | some d' => sameC d' d
    | none => false
  | .glob x, .Name y _ => decide (x = y) && globB sc y
  | .rd l, e => chkL N sc l e
  | .pk l, e => chkL N sc l e
  | .fz i, .Name x _ => nameB N sc i x
  | .neg a, .UnaryOp .USub e _ => chkE N sc a e
  | .tup es, .Tuple xs _ _ => chkEs N sc es xs && stabs es
  | .lst es, .List xs _ => chkEs N sc es xs && stabs es
  | .bin o a b, .BinOp x op y _ => decide (opPy o = op) && chkE N sc a x && chkE N sc b y && (stab a || quiet b)
  | .cmp o a b, .Compare x [op] [y] _ => decide (cmPy o = op) && chkE N sc a x && chkE N sc b y && (stab a || quiet b) && plM y
  | .chain o o' a b c, .Compare x [op, op'] [y, z] _ => decide (cmPy o = op) && decide (cmPy o' = op') && chkE N sc a x && chkE N sc b y && chkE N sc c z && (stab a || quiet b) && stab b && plM y && plM z
  | .one a, .BoolOp _ [x] _ => chkE N sc a x
  | .and a b, .BoolOp .And (x :: y :: r) p => chkE N sc a x && chkE N sc b (.BoolOp .And (y :: r) p)
  | .or a b, .BoolOp .Or (x :: y :: r) p => chkE N sc a x && chkE N sc b (.BoolOp .Or (y :: r) p)
  | .not a, .UnaryOp .Not x _ => chkE N sc a x
  | .ife c a b, .IfExp c' x y _ => chkT N sc c c' && chkE N sc a x && chkE N sc b y
  | .app l a, .Call (.Attribute x name apos) [y] [] pos => decide (name = ("append" : Str)) && chkL N sc l x && chkE N sc a y && stab a && plB x && plS y && decide (apos.endLine = pos.line)
  | .ext l a, .Call (.Attribute x name apos) [y] [] pos => decide (name = ("extend" : Str)) && chkL N sc l x && chkE N sc a y && plB x && plS y && decide (apos.endLine = pos.line)
  | .popAt l a, .Call (.Attribute x name apos) [y] [] pos => decide (name = ("pop" : Str)) && chkL N sc l x && chkE N sc a y && plB x && plS y && decide (apos.endLine = pos.line)
  | .pop l, .Call (.Attribute x name apos) [] [] pos => decide (name = ("pop" : Str)) && chkL N sc l x && plB x && decide (apos.endLine = pos.line)
  | .revL l, .Call (.Attribute x name apos) [] [] pos => decide (name = ("reverse" : Str)) && chkL N sc l x && plB x && decide (apos.endLine = pos.line)
  | .ix a b, .Subscript x y _ => chkE N sc a x && chkE N sc b y && (stab a || quiet b) && plI y
  | .sl a lo hi, .Subscript x (.Slice l u none _) _ => chkE N sc a x && chkPt N sc lo l && chkPt N sc hi u && (stab a || (quiet lo && quiet hi))
  | .ofr o, e => chkO N sc o e
  | .bi f es, .Call (.Name x _) (a :: r) [] _ => decide (biName f = x) && globB sc x && chkEs N sc es (a :: r)
  | .sset a, .Call (.Name x _) [.Call (.Name z _) [y] [] _] [] _ => decide (x = ("sorted" : Str)) && globB sc x && decide (z = ("set" : Str)) && globB sc z && chkE N sc a y && plS y
  | .isi t a, .Call (.Name x _) [y, .Name z _] [] _ => decide (x = ("isinstance" : Str)) && globB sc x && decide (z = tyNm t) && globB sc z && chkE N sc a y && plS y && decide (t ≤ 4)
  | .rev a, .Subscript x (.Slice none none (some (.UnaryOp .USub (.Constant (.int 1) _ _) _)) _) _ => chkE N sc a x
  | .mt0 m a, .Call (.Attribute x name apos) [] [] pos => decide (mtName m = name) && chkE N sc a x && plB x && decide (apos.endLine = pos.line) && mtZero m
  | .mt1 m a b, .Call (.Attribute x name apos) [y] [] pos => decide (mtName m = name) && chkE N sc a x && chkE N sc b y && plB x && plS y && decide (apos.endLine = pos.line) && mtOne m
  | _, _ => false
def chkPt (N : List Str) (sc : Scope) : E → Option Expr → Bool
  | .noPart, none => true
  | .part a, some e => chkE N sc a e
  | _, _ => false
def chkEs (N : List Str) (sc : Scope) : E → List Expr → Bool
  | .nil, [] => true
  | .cons a r, x :: xs => chkE N sc a x && chkEs N sc r xs && (stab a || quiet r) && plS x
  | _, _ => false
def chkT (N : List Str) (sc : Scope) : E → Expr → Bool
  | .one a, .BoolOp _ [x] _ => chkT N sc a x
  | .and a b, .BoolOp .And (x :: y :: r) p => chkT N sc a x && chkT N sc b (.BoolOp .And (y :: r) p)
  | .or a b, .BoolOp .Or (x :: y :: r) p => chkT N sc a x && chkT N sc b (.BoolOp .Or (y :: r) p)
  | .not a, .UnaryOp .Not x _ => chkT N sc a x
  | .cmp o a b, .Compare x [op] [y] _ => decide (cmPy o = op) && chkE N sc a x && chkE N sc b y && (stab a || quiet b) && plM y
  | .chain o o' a b c, .Compare x [op, op'] [y, z] _ => decide (cmPy o = op) && decide (cmPy o' = op') && chkE N sc a x && chkE N sc b y && chkE N sc c z && (stab a || quiet b) && stab b && plM y && plM z
  | .tru a, e => chkE N sc a e && plT e
  | _, _ => false
def chkL (N : List Str) (sc : Scope) : E → Expr → Bool
  | .lvar i, .Name x _ => nameB N sc i x
  | .lfld l f, .Attribute x g _ => decide (f = g) && chkL N sc l x && plB x
  | .lix l e, .Subscript x y _ => chkL N sc l x && chkE N sc e y && stab e && plI y
  | .lkey l e, .Subscript x y _ => chkL N sc l x && chkE N sc e y && stab e && plI y
  | _, _ => false
def chkI (N : List Str) (sc : Scope) : E → Expr → Bool
  | .range1 a, .Call (.Name x _) [y] [] _ => decide (x = ("range" : Str)) && globB sc x && chkE N sc a y && plS y
  | .range2 a b, .Call (.Name x _) [y, z] [] _ => decide (x = ("range" : Str)) && globB sc x && chkE N sc a y && chkE N sc b z && (stab a || quiet b) && plS y && plS z
  | .range3 a b c, .Call (.Name x _) [y, z, w] [] _ => decide (x = ("range" : Str)) && globB sc x && chkE N sc a y && chkE N sc b z && chkE N sc c w && stab a && stab b && plS y && plS z && plS w
  | .revI a, .Call (.Name x _) [y] [] _ => decide (x = ("reversed" : Str)) && globB sc x && chkE N sc a y && stab a && plS y
  | .lkv i, .Name x _ => nameB N sc i x
  | .itv a, e => chkE N sc a e && stab a && plM e
  | .itt a, e => chkE N sc a e && stab a && plM e
  | .its a, e => chkE N sc a e && stab a && plM e
  | _, _ => false
def chkO (N : List Str) (sc : Scope) : E → Expr → Bool
  | .ofz a, e => chkE N sc a e && stab a
  | .mv i, .Name x _ => nameB N sc i x
  | .olst es, .List xs _ => chkOs N sc es xs
  | .ocomp own elt tg it ifs, .ListComp elt' [⟨tg', it', ifs', 0⟩] scope _ => L2.blkC N sc scope own && chkI N sc it it' && chkB N (L2.relS scope sc) (ownCells scope) tg tg' && sub1 tg own && ifsB (isNil ifs) (fun x => chkT N (L2.relS scope sc) ifs x) ifs' && chkO N (L2.relS scope sc) elt elt'
  | .olist a, .Call (.Name x _) [y] [] _ => decide (x = ("list" : Str)) && globB sc x && chkE N sc a y && stab a && plS y
  | .orange a, .Call (.Name x _) [.Call (.Name z _) [y] [] _] [] _ => decide (x = ("list" : Str)) && globB sc x && decide (z = ("range" : Str)) && globB sc z && chkE N sc a y && plS y
  | .call f args, .Call (.Name x _) (y :: ys) [] _ => decide (f = x) && globB sc x && chkA N sc args (y :: ys)
  | .meth l _ m args, .Call (.Attribute x name apos) ys [] pos => decide (m = name) && chkL N sc l x && chkA N sc args ys && plB x && decide (apos.endLine = pos.line) && decide (ys.length < 29)
  | .methT o _ m args, .Call (.Attribute x name apos) ys [] pos => decide (m = name) && chkO N sc o x && chkA N sc args ys && plB x && decide (apos.endLine = pos.line) && decide (ys.length < 29)
  | .make c args, .Call (.Name x _) ys [] _ => decide (c = x) && globB sc x && chkA N sc args ys
  | _, _ => false
def chkOs (N : List Str) (sc : Scope) : E → List Expr → Bool
  | .nil, [] => true
  | .cons a r, x :: xs => chkO N sc a x && chkOs N sc r xs && plS x
  | _, _ => false
def chkA (N : List Str) (sc : Scope) : E → List Expr → Bool
  | .nil, [] => true
  | .cons a r, x :: xs => chkA1 N sc a x && chkA N sc r xs && plS x
  | _, _ => false
def chkA1 (N : List Str) (sc : Scope) : E → Expr → Bool
  | .ava o, e => chkO N sc o e
  | .aro l, e => chkL N sc l e
  | .arw l, e => chkL N sc l e
  | _, _ => false
end

/-! ### contexts -/
abbrev ctOf (X : Cx) : Ct := ⟨X.prog, X.w, X.K, X.mg, X.base⟩
structure CxOk (N : List Str) (sc : Scope) (k : Nat) (X : Cx) : Prop where
  nm : X.N = N
  sc : X.env.scope = sc
  nd : N.Nodup
  calm : X.calm = true
  room : Room k X.A
  guards : X.A.guards = some []
  own : PassesOwn (model X.prog X.w) X.A X.env X.xe
theorem CxOk.hu {N : List Str} {sc : Scope} {k : Nat} {X : Cx} (c : CxOk N sc k X) : X.A.units + 65 < cLine := by
  have := c.room.un
  omega
/-- the readings that hold whatever follows -/
def wE (X : Cx) (e : Expr) : TE := fun σ H Q => ∀ (pins : List (Addr × Obj)) (s : Shared), L2.Inv X pins σ H s → wpAny (model X.prog X.w) X.A (eval e X.env) (EP X pins σ Q) X.xe s
def wT (X : Cx) (e : Expr) : TT := fun σ H Q => ∀ (pins : List (Addr × Obj)) (s : Shared), L2.Inv X pins σ H s → wpAny (model X.prog X.w) X.A (isTrue e X.env (eval e X.env)) (TP X pins σ Q) X.xe s
def wPW (X : Cx) (e : Expr) : TT := fun σ H Q => ∀ (whole : Sem Value) (pins : List (Addr × Obj)) (s : Shared), L2.Inv X pins σ H s → wpAny (model X.prog X.w) X.A (isTrue e X.env whole) (TP X pins σ Q) X.xe s
def wA (X : Cx) (es : List Expr) : TA := fun σ H Q => ∀ (pos : Pos) (pins : List (Addr × Obj)) (s : Shared), L2.Inv X pins σ H s → wpAny (model X.prog X.w) X.A (spliced (backTo pos (starEach es X.env))) (AP X pins σ Q) X.xe s
section
variable {X : Cx} {e : Expr} {es : List Expr} {σ : Sto} {H : Hp}
theorem pe_w : PE X e (wE X e) := ⟨fun pins s σ H Q I h => h pins s I⟩
theorem pt_w : PT X e (wT X e) := ⟨fun pins s σ H Q I h => h pins s I⟩
theorem pw_w : PW X e (wPW X e) := ⟨fun w pins s σ H Q I h => h w pins s I⟩
theorem pa_w : PA X es (wA X es) := ⟨fun pos pins s σ H Q I h => h pos pins s I⟩
theorem wE_of {t : TE} {Q : VK} (h : PE X e t) (q : t σ H Q) : wE X e σ H Q := fun pins s I => h.run pins s σ H Q I q
theorem wT_of {t : TT} {Q : Bool → Hp → Prop} (h : PT X e t) (q : t σ H Q) : wT X e σ H Q := fun pins s I => h.run pins s σ H Q I q
theorem wPW_of {t : TT} {Q : Bool → Hp → Prop} (h : PW X e t) (q : t σ H Q) : wPW X e σ H Q := fun w pins s I => h.run w pins s σ H Q I q
theorem wA_of {t : TA} {Q : List V → Hp → Prop} (h : PA X es t) (q : t σ H Q) : wA X es σ H Q := fun pos pins s I => h.run pos pins s σ H Q I q
end

/-! ### the names in the text -/
theorem visB_vis {sc : Scope} {x : Str} (h : visB sc x = true) : Vis sc x := by
  unfold visB at h
  unfold Vis
  cases q : sc.names.lookup x with
  | none => rw [q] at h; simp at h
  | some k =>
    rw [q] at h
    cases k with
    | «local» => exact .inl rfl
    | cell => exact .inr (.inl rfl)
    | free => exact .inr (.inr rfl)
    | globalExplicit => simp at h
    | globalImplicit => simp at h
section
variable {N : List Str} {sc : Scope} {k : Nat} {X : Cx}
theorem nameB_pe {i : Nat} {x : Str} {pos : Pos} (c : CxOk N sc k X) (h : nameB N sc i x = true) : PE X (.Name x pos) (tVar i) := by
  unfold nameB at h
  simp only [Bool.and_eq_true, decide_eq_true_eq, Bool.not_eq_true'] at h
  exact pe_var (by rw [c.nm]; exact h.1.1.1) (by rw [c.sc]; exact visB_vis h.1.1.2) h.1.2 h.2
theorem globB_gl {x : Str} (c : CxOk N sc k X) (h : globB sc x = true) : L2.Gl X x ∧ (x == ("__debug__" : Str)) = false ∧ x ≠ "__name__" := by
  unfold globB at h
  simp only [Bool.and_eq_true, decide_eq_true_eq, Bool.not_eq_true'] at h
  refine ⟨?_, h.1.2, h.2⟩
  show X.env.scope.names.lookup x = _
  rw [c.sc]
  exact h.1.1
end
theorem plS_star {x : Expr} {xs : List Expr} {env : PySem.Env} (h : plS x = true) : starEach (x :: xs) env = (false, eval x env) :: starEach xs env := by
  cases x <;> first | rfl | simp [plS] at h
theorem plT_true {x : Expr} {env : PySem.Env} (h : plT x = true) : ∀ whole, isTrue x env whole = (do let v ← whole; standAt x.pos; holding [v] (truthy v)) := by
  cases x with
  | UnaryOp op a p => cases op <;> first | (intro whole; rfl) | simp [plT] at h
  | _ => first | (intro whole; rfl) | simp [plT] at h
theorem plI_ix {x : Expr} (h : plI x = true) : PlainIx x := by
  cases x <;> first | (intro o i; rfl) | simp [plI] at h
theorem plB_base {x : Expr} {name : Str} {env : PySem.Env} {whole : Sem Value} (h : plB x = true) : attributeBase x name env whole = whole := by
  unfold attributeBase
  split
  · simp [plB] at h
  · rfl
theorem plM_mark {op : CmpOp} {x : Expr} (h : plM x = true) : behindInMarks op x = false := by
  cases x <;> first | rfl | simp [plM] at h
theorem stars_no {pos : Pos} {env : PySem.Env} : ∀ {xs : List Expr}, (∀ x ∈ xs, plS x = true) → (backTo pos (starEach xs env)).any (·.1) = false
  | [], _ => rfl
  | x :: xs, h => by
    rw [plS_star (h x List.mem_cons_self)]
    have ih := stars_no (pos := pos) (env := env) (xs := xs) fun y hy => h y (List.mem_cons_of_mem _ hy)
    simpa [backTo] using ih
end Mp

end
section
set_option Elab.async false
set_option linter.all false
set_option maxRecDepth 100000
set_option autoImplicit false
/-! MiniPy, part J: what is said of an expression; the simple ones. -/
namespace Mp
open PySem PySem.Spec PyProof.Rows L2

/-! ### defs -/
def slotOf : Mode → T → Sl
  | .val, t => .own t
  | .ro, t => .ro t
  | .rw, t => .own t
def slotsOf : List Mode → List T → Env
  | m :: ms, t :: ts => slotOf m t :: slotsOf ms ts
  | _, _ => []
/-- an exception that flies: its class, its fields -/
def XRel (C : Ct) (H Z : Hp) (x : Exn) (cls : Value) (dd : Option Addr) : Prop :=
  ∃ A, C.mg x.c = some (.ref A) ∧ cls = .ref A ∧ ∃ d fs, dd = some d ∧ H d = some (.xd fs) ∧ fs.map (·.1) = x.fs.map (·.1) ∧ DzAll C.K Z (fs.map (·.2)) (x.fs.map (·.2))
/-- what stands where a changed parameter stood -/
def RwOk (C : Ct) (ms : List Mode) (vs : List V) (ts' : List T) (H' Z' : Hp) (Uw : FS) : Prop :=
  (∀ (i : Nat) w, ms[i]? = some Mode.rw → vs[i]? = some w → ∃ t', ts'[i]? = some t' ∧ Own C false H' Z' w t' Uw) ∧ ((∀ (i : Nat), ms[i]? ≠ some Mode.rw) → ∀ b, ¬ Uw b) ∧ ∀ b, Uw b → Z' b = none
/-- the promise of a def that computes F -/
def spOf (C : Ct) (F : Fn) : Sp := fun vs H Q E => vs.length = F.modes.length ∧ ∃ (Z : Hp) (ts : List T) (U : Nat → FS), ts.length = F.modes.length ∧ Rel C (vs.map some) H Z (slotsOf F.modes ts) U [] ∧
  match F.run ts with
  | .ok r ts' => ∀ v H' Z' Ur Uw, Own C false H' Z' v r Ur → RwOk C F.modes vs ts' H' Z' Uw → (∀ b, Ur b → ¬ Uw b) → (∀ b, Ur b → Z' b = none) → Same Z' H' → Stp H Z (Af (slotsOf F.modes ts) U) H' Z' (fun b => Ur b ∨ Uw b) → Q v H'
  | .raise x ts' => ∀ cls dd H' Z' Uw, XRel C H' Z' x cls dd → RwOk C F.modes vs ts' H' Z' Uw → Same Z' H' → Stp H Z (Af (slotsOf F.modes ts) U) H' Z' Uw → E cls dd H'
  | .bad => False
/-- a def keeps its promise, where no repr runs -/
structure FnOkG (C : Ct) (k : Nat) (f : Addr) (fd : FuncData) (ps : List Str) (sp : Sp) : Prop where
  len : ∀ vs H Q E, sp vs H Q E → vs.length = ps.length
  run : ∀ (A : Around) (outer : List PySem.Env) (s : Shared) (H : Hp) (args : Args) (us : List Value) (vs : List V) (Q : VK) (E : XK), Room k A → A.guards = some [] → Env0 C.prog C.w C.K C.mg C.base A outer s H → BindsTo s fd args (ps.zip us) → Vals vs us → sp vs H Q E →
    codeAny (model C.prog C.w) A (.call (.ref f) args) (CR (L2.CX C.prog C.w) outer C.prog C.w H s Q E) s
def FnG (C : Ct) (k : Nat) (x : Str) (F : Fn) : Prop := ∃ (a : Addr) (fd : FuncData) (ps : List Str), C.mg x = some (.ref a) ∧ PySem.W.keepIn C.K (.ref a) = true ∧ Binds C.K fd ps [] ∧ ps.length = F.modes.length ∧ FnOkG C k a fd ps (spOf C F)
def MeG (C : Ct) (k : Nat) (c m : Str) (F : Fn) : Prop := ∃ (A a : Addr) (fd : FuncData) (ps : List Str), C.mg c = some (.ref A) ∧ Cls C.K A ∧ Meth C.K A m a ∧ Binds C.K fd ps [] ∧ ps.length = F.modes.length ∧ FnOkG C k a fd ps (spOf C F)
def MkG (C : Ct) (k : Nat) (c : Str) (F : Fn) : Prop := ∃ (A f : Addr) (fd : FuncData) (ps : List Str) (ms : List Mode) (j : Nat), k = j + 1 ∧ C.mg c = some (.ref A) ∧ Mk C.K A f ∧ Binds C.K fd ps [] ∧ ps.length = F.modes.length ∧ F.modes = .rw :: ms ∧ FnOkG C j f fd ps (spOf C F)
/-- an exception class's first method: it stores its arguments -/
def spEx (A : Addr) (fl : List Str) : Sp := fun vs H Q _ => ∃ (a : Addr) (ws : List V), vs = .ref a :: ws ∧ ws.length = fl.length ∧ H a = some (exo a A none) ∧
  ∀ dx H', H dx = none → dx ≠ a → H' a = some (exo a A (some dx)) → H' dx = some (exd dx (fl.zip ws).reverse) → (∀ b, b ≠ a → b ≠ dx → H' b = H b) → Q .non H'
def ExG (C : Ct) (k : Nat) (c : Str) (fl : List Str) : Prop := ∃ (A f : Addr) (fd : FuncData) (ps : List Str) (j : Nat), k = j + 1 ∧ C.mg c = some (.ref A) ∧ OexC C.K A ∧ ExcC C.K A ∧ (∀ g ∈ fl, PySem.W.findIn C.K (.ref A) g = some none) ∧
  PySem.W.findIn C.K (.ref A) "__init__" = some (some (.ref f)) ∧ PySem.W.typeIn C.K (.ref f) = some (.type "function") ∧ Binds C.K fd ps [] ∧ ps.length = fl.length + 1 ∧ fl.length ≤ 900 ∧ FnOk C.prog C.w C.K C.mg C.base L2.CX0 j f fd ps (spEx A fl)
/-- what isinstance and an except clause say of an exception of the class c, asked for c' -/
def HitG (C : Ct) (c c' : Str) (b : Bool) : Prop := ∃ (A : Addr) (v : V) (cv : Value), C.mg c = some (.ref A) ∧ RelV v cv ∧ (∀ u, RelV v u → u = cv) ∧ (C.mg c' = some cv ∨ (C.mg c' = none ∧ bootBuiltins c' = some cv ∧ c' ≠ "__name__")) ∧
  PySem.W.kitOne C.K (.ref A) cv = some b ∧ PySem.W.exmOne C.K (.ref A) cv = some b ∧ ExcC C.K A
/-- the program around is what the text says -/
structure GOk (G : Gl) (C : Ct) (k : Nat) : Prop where
  bi : ∀ f : Bi, C.mg (biName f) = none
  rg : C.mg "range" = none ∧ C.mg "reversed" = none ∧ C.mg "set" = none ∧ C.mg "isinstance" = none ∧ C.mg "bool" = none
  con : ∀ x d, G.con x = some d → ∃ u v, C.mg x = some u ∧ RelV v u ∧ Dz C.K (fun _ => none) v d
  fn : ∀ f F, G.fn f = some F → FnG C k f F
  fld : ∀ c f A, G.fld c f = true → C.mg c = some (.ref A) → Cls C.K A ∧ NoAttr C.K A f
  me : ∀ c m F, G.me c m = some F → MeG C k c m F
  ini : ∀ c F, G.ini c = some F → MkG C k c F
  exn : ∀ c fl, G.exn c = some fl → ExG C k c fl
  hit : ∀ c c' b, G.hit c c' = some b → HitG C c c' b

/-! ### what is said of an expression -/
structure Nx (C : Ct) (σ : Sto) (H Z : Hp) (env : Env) (F : Nat → FS) (P : List (Nat × V)) (H' Z' : Hp) (env' : Env) (F' : Nat → FS) : Prop where
  rel : Rel C σ H' Z' env' F' P
  stp : Stp H Z (Af env F) H' Z' (Af env' F')
  all : ∀ j b, F' j b → (∃ i, F i b) ∨ H b = none
  rok : ∀ (i : Nat) t, (env[i]? = some (Sl.ro t) ↔ env'[i]? = some (Sl.ro t)) ∧ (env[i]? = some (Sl.ro t) → F' i = F i)
theorem Nx.refl {C : Ct} {σ : Sto} {H Z : Hp} {env : Env} {F : Nat → FS} {P : List (Nat × V)} (R : Rel C σ H Z env F P) : Nx C σ H Z env F P H Z env F := ⟨R, Stp.refl, fun j b h => .inl ⟨j, h⟩, fun _ _ => ⟨Iff.rfl, fun _ => rfl⟩⟩
theorem Nx.trans {C : Ct} {σ : Sto} {H Z H1 Z1 H2 Z2 : Hp} {env env1 env2 : Env} {F F1 F2 : Nat → FS} {P : List (Nat × V)} (a : Nx C σ H Z env F P H1 Z1 env1 F1) (b : Nx C σ H1 Z1 env1 F1 P H2 Z2 env2 F2) : Nx C σ H Z env F P H2 Z2 env2 F2 where
  rel := b.rel
  stp := a.stp.trans b.stp
  all := fun j c h => by
    rcases b.all j c h with ⟨i, x⟩ | x
    · exact a.all i c x
    · by_cases n : Af env F c
      · obtain ⟨i, _, y⟩ := n
        exact .inl ⟨i, y⟩
      · refine .inr ?_
        cases e : H c with
        | none => rfl
        | some o => rw [a.stp.keep c o e n] at x; cases x
  rok := fun i t => ⟨(a.rok i t).1.trans (b.rok i t).1, fun h => ((b.rok i t).2 ((a.rok i t).1.mp h)).trans ((a.rok i t).2 h)⟩
/-- an exception that leaves here meets the wish W -/
def Rx (C : Ct) (W : WX) (σ : Sto) (H Z : Hp) (env : Env) (F : Nat → FS) (P : List (Nat × V)) {α : Type} (r : Res α) : Prop :=
  ∀ x env', r = .raise x env' → ∀ H' Z' F' cls dd, Nx C σ H Z env F P H' Z' env' F' → XRel C H' Z' x cls dd → W cls dd σ H'
theorem Rx.next {C : Ct} {W : WX} {σ : Sto} {H Z H1 Z1 : Hp} {env env1 : Env} {F F1 : Nat → FS} {P : List (Nat × V)} {α β : Type} {r : Res α} {r1 : Res β} (h : Rx C W σ H Z env F P r) (n : Nx C σ H Z env F P H1 Z1 env1 F1) (e : ∀ x env', r1 = .raise x env' → r = .raise x env') :
    Rx C W σ H1 Z1 env1 F1 P r1 := fun x env' q H' Z' F' cls dd n' xr => h x env' (e x env' q) H' Z' F' cls dd (n.trans n') xr
def DqS (K : PySem.W.Frag) (b : Bool) (Z H : Hp) (v : V) (d : PyData) : Prop := Dq K Z H v d ∧ (b = true → Dz K Z v d)
/-- sound: where it gives data, the text gives a value that is this data -/
def SdE (G : Gl) (m : E) : Prop := ∀ (N : List Str) (sc : Scope) (e : Expr), chkE N sc m e = true → ∀ (X : Cx) (W : WX) (k : Nat), CxOk N sc k X → Takes X W → GOk G (ctOf X) k →
  ∀ (σ : Sto) (H Z : Hp) (env : Env) (F : Nat → FS) (P : List (Nat × V)), Rel (ctOf X) σ H Z env F P → evE G m env ≠ .bad → Rx (ctOf X) W σ H Z env F P (evE G m env) →
  ∀ Q : VK, (∀ d env', evE G m env = .ok d env' → ∀ v H' Z' F', Nx (ctOf X) σ H Z env F P H' Z' env' F' → (quiet m = true → Same H H' ∧ env' = env ∧ F' = F) → DqS X.K (stab m) Z' H' v d → Q v H') → wE X e σ H Q
def SdPt (G : Gl) (m : E) : Prop := ∀ (N : List Str) (sc : Scope) (e : Option Expr), chkPt N sc m e = true → ∀ (X : Cx) (W : WX) (k : Nat), CxOk N sc k X → Takes X W → GOk G (ctOf X) k →
  ∃ t : TO, PO X e t ∧ ∀ (σ : Sto) (H Z : Hp) (env : Env) (F : Nat → FS) (P : List (Nat × V)), Rel (ctOf X) σ H Z env F P → evPt G m env ≠ .bad → Rx (ctOf X) W σ H Z env F P (evPt G m env) →
  ∀ Q : Option Int → Hp → Prop, (∀ d env', evPt G m env = .ok d env' → ∀ H' Z' F', Nx (ctOf X) σ H Z env F P H' Z' env' F' → (quiet m = true → Same H H' ∧ env' = env ∧ F' = F) → Q d H') → t σ H Q
def SdEs (G : Gl) (m : E) : Prop := ∀ (N : List Str) (sc : Scope) (es : List Expr), chkEs N sc m es = true → ∀ (X : Cx) (W : WX) (k : Nat), CxOk N sc k X → Takes X W → GOk G (ctOf X) k →
  ∀ (σ : Sto) (H Z : Hp) (env : Env) (F : Nat → FS) (P : List (Nat × V)), Rel (ctOf X) σ H Z env F P → evEs G m env ≠ .bad → Rx (ctOf X) W σ H Z env F P (evEs G m env) →
  ∀ Q : List V → Hp → Prop, (∀ ds env', evEs G m env = .ok ds env' → ∀ vs H' Z' F', Nx (ctOf X) σ H Z env F P H' Z' env' F' → (quiet m = true → Same H H' ∧ env' = env ∧ F' = F) → Paired (Dq X.K Z' H') vs ds → (stabs m = true → DzAll X.K Z' vs ds) → Q vs H') → wA X es σ H Q
def SdT (G : Gl) (m : E) : Prop := ∀ (N : List Str) (sc : Scope) (e : Expr), chkT N sc m e = true → ∀ (X : Cx) (W : WX) (k : Nat), CxOk N sc k X → Takes X W → GOk G (ctOf X) k →
  ∀ (σ : Sto) (H Z : Hp) (env : Env) (F : Nat → FS) (P : List (Nat × V)), Rel (ctOf X) σ H Z env F P → evT G m env ≠ .bad → Rx (ctOf X) W σ H Z env F P (evT G m env) →
  ∀ Q : Bool → Hp → Prop, (∀ d env', evT G m env = .ok d env' → ∀ H' Z' F', Nx (ctOf X) σ H Z env F P H' Z' env' F' → (quiet m = true → Same H H' ∧ env' = env ∧ F' = F) → Q d H') → wT X e σ H Q ∧ ((∃ op xs p, e = .BoolOp op xs p) → wPW X e σ H Q)
/-- a place: what stands there, that it may be changed if the root may -/
def Place (C : Ct) (σ : Sto) (H Z : Hp) (env : Env) (F : Nat → FS) (r : Nat) (p : List Sg) (v : V) : Prop :=
  (∃ w t t1 U1, ownT env r = some t ∧ σ[r]? = some (some w) ∧ getP t p = some t1 ∧ Lens C false H Z w t (F r) p v t1 U1 ∧ (noNk p = true → PathAt H w p v)) ∨
  ∃ w t t1 U1, env[r]? = some (Sl.ro t) ∧ σ[r]? = some (some w) ∧ getP t p = some t1 ∧ Lens C true H Z w t (F r) p v t1 U1 ∧ (noNk p = true → PathAt H w p v)
def SdL (G : Gl) (m : E) : Prop := ∀ (N : List Str) (sc : Scope) (e : Expr), chkL N sc m e = true → ∀ (X : Cx) (W : WX) (k : Nat), CxOk N sc k X → Takes X W → GOk G (ctOf X) k →
  ∀ (σ : Sto) (H Z : Hp) (env : Env) (F : Nat → FS) (P : List (Nat × V)), Rel (ctOf X) σ H Z env F P → evL G m env ≠ .bad → Rx (ctOf X) W σ H Z env F P (evL G m env) →
  ∀ Q : VK, (∀ q env', evL G m env = .ok q env' → ∀ v H' Z' F', Nx (ctOf X) σ H Z env F P H' Z' env' F' → (quiet m = true → Same H H' ∧ env' = env ∧ F' = F) → Place (ctOf X) σ H' Z' env' F' q.1 q.2 v → Q v H') → wE X e σ H Q

theorem bind_nb {α β : Type} {r : Res α} {k : α → Env → Res β} (h : r.bind k ≠ .bad) : r ≠ .bad := fun e => h (by rw [e]; rfl)
theorem bind_rx {α β : Type} {r : Res α} {k : α → Env → Res β} {x : Exn} {env' : Env} (h : r = .raise x env') : r.bind k = .raise x env' := by rw [h]; rfl

section
variable {G : Gl}
theorem sd_con (d : PyData) : SdE G (.con d) := by
  intro N sc e hc X W k cx tk gk σ H Z env F P R nb rx Q ok
  have fin : ∀ v, Dz X.K Z v d → Q v H := fun v h => ok d env rfl v H Z F (Nx.refl R) (fun _ => ⟨Same.refl H, rfl, rfl⟩) ⟨.inl h, fun _ => h⟩
  cases e with
  | Constant c _ _ =>
    simp only [chkE] at hc
    cases c with
    | none =>
      have e := sameC_eq (show sameC PyData.none d = true from hc)
      subst e
      exact wE_of pe_non (fin _ .non)
    | bool b =>
      have e := sameC_eq (show sameC (PyData.bool b) d = true from hc)
      subst e
      exact wE_of pe_bl (fin _ (.bl b))
    | int b =>
      have e := sameC_eq (show sameC (PyData.int b) d = true from hc)
      subst e
      exact wE_of pe_int (fin _ (.int b))
    | str b =>
      have e := sameC_eq (show sameC (PyData.str b) d = true from hc)
      subst e
      exact wE_of pe_str (fin _ (.str b))
    | _ => simp [conD] at hc
  | _ => simp [chkE] at hc
theorem sd_glob (x : Str) : SdE G (.glob x) := by
  intro N sc e hc X W k cx tk gk σ H Z env F P R nb rx Q ok
  cases e with
  | Name y pos =>
    simp only [chkE, Bool.and_eq_true, decide_eq_true_eq] at hc
    obtain ⟨rfl, hg⟩ := hc
    obtain ⟨g1, g2, g3⟩ := globB_gl cx hg
    simp only [evE] at nb ok
    cases q : G.con x with
    | none => rw [q] at nb; exact absurd rfl nb
    | some d =>
      rw [q] at ok
      obtain ⟨u, v, h1, h2, h3⟩ := gk.con x d q
      refine wE_of (pe_glob g1 h1 h2 g2) ?_
      have dz : Dz X.K Z v d := dp_same (fun b o e => absurd (show (none : Option HO) = some o from e) (by simp)) h3
      exact ok d env rfl v H Z F (Nx.refl R) (fun _ => ⟨Same.refl H, rfl, rfl⟩) ⟨.inl dz, fun _ => dz⟩
  | _ => simp [chkE] at hc
/-- behind a step that gives data -/
theorem gives_of {X : Cx} {σ : Sto} {H Z H1 Z1 : Hp} {env env1 : Env} {F F1 : Nat → FS} {P : List (Nat × V)} {r : PyData} {Q : VK} {b q : Bool} (n : Nx (ctOf X) σ H Z env F P H1 Z1 env1 F1)
    (hq : q = true → Same H H1 ∧ env1 = env ∧ F1 = F) (ok : ∀ v H' Z' F', Nx (ctOf X) σ H Z env F P H' Z' env1 F' → (q = true → Same H H' ∧ env1 = env ∧ F' = F) → DqS X.K b Z' H' v r → Q v H') : Gives X.K Z1 H1 r Q := by
  refine ⟨fun v h => ok v H1 Z1 F1 n hq ⟨.inl h, fun _ => h⟩, fun p u hp h => ?_⟩
  obtain ⟨R', e, s⟩ := n.rel.newZ (o := u) hp
  exact ok (.ref p) _ _ F1 (n.trans ⟨R', s, fun j b x => .inl ⟨j, x⟩, fun _ _ => ⟨Iff.rfl, fun _ => rfl⟩⟩) (fun z => ⟨(hq z).1.trans e, (hq z).2.1, (hq z).2.2⟩) ⟨.inl h, fun _ => h⟩
theorem ofO_ok {α : Type} {o : Option α} {env : Env} {a : α} (h : o = some a) : Res.ofO o env = .ok a env := by rw [h]; rfl
theorem ofO_nb {α : Type} {o : Option α} {env : Env} (h : Res.ofO o env ≠ .bad) : ∃ a, o = some a := by
  cases o with
  | none => exact absurd rfl h
  | some a => exact ⟨a, rfl⟩
/-- two expressions in a row, then what is made of the two -/
theorem two {β : Type} {a b : E} {x y : Expr} (ha : SdE G a) (hb : SdE G b) {N : List Str} {sc : Scope} (ca : chkE N sc a x = true) (cb : chkE N sc b y = true) (hs : (stab a || quiet b) = true) {X : Cx} {W : WX} {k : Nat} (cx : CxOk N sc k X) (tk : Takes X W) (gk : GOk G (ctOf X) k)
    {σ : Sto} {H Z : Hp} {env : Env} {F : Nat → FS} {P : List (Nat × V)} (R : Rel (ctOf X) σ H Z env F P) {kk : PyData → PyData → Env → Res β} (nb : ((evE G a env).bind fun x env1 => (evE G b env1).bind fun y env2 => kk x y env2) ≠ .bad)
    (rx : Rx (ctOf X) W σ H Z env F P ((evE G a env).bind fun x env1 => (evE G b env1).bind fun y env2 => kk x y env2)) {Q : V → V → Hp → Prop}
    (ok : ∀ d e env2, kk d e env2 ≠ .bad → ((evE G a env).bind fun x env1 => (evE G b env1).bind fun y env2 => kk x y env2) = kk d e env2 → ∀ v u H2 Z2 F2, Nx (ctOf X) σ H Z env F P H2 Z2 env2 F2 → ((quiet a && quiet b) = true → Same H H2 ∧ env2 = env ∧ F2 = F) →
      Dq X.K Z2 H2 v d → DqS X.K (stab b) Z2 H2 u e → Q v u H2) : wE X x σ H fun v H1 => wE X y σ H1 fun u H2 => Q v u H2 := by
  refine ha N sc x ca X W k cx tk gk σ H Z env F P R (bind_nb nb) (rx.next (Nx.refl R) fun z env' h => bind_rx h) _ fun d env1 h1 v H1 Z1 F1 n1 q1 d1 => ?_
  rw [h1] at nb rx
  simp only [bind_ok] at nb rx
  refine hb N sc y cb X W k cx tk gk σ H1 Z1 env1 F1 P n1.rel (bind_nb nb) (rx.next n1 fun z env' h => bind_rx h) _ fun e env2 h2 u H2 Z2 F2 n2 q2 d2 => ?_
  rw [h2] at nb
  simp only [bind_ok] at nb
  refine ok d e env2 nb (by rw [h1]; simp only [bind_ok]; rw [h2]; rfl) v u H2 Z2 F2 (n1.trans n2) (fun z => ?_) ?_ d2
  · rw [Bool.and_eq_true] at z
    obtain ⟨a1, a2, a3⟩ := q1 z.1
    obtain ⟨b1, b2, b3⟩ := q2 z.2
    exact ⟨a1.trans b1, b2.trans a2, b3.trans a3⟩
  · rw [Bool.or_eq_true] at hs
    rcases hs with hs | hs
    · exact .inl (dp_same n2.stp.zz (d1.2 hs))
    · exact d1.1.same (q2 hs).1 n2.stp.zz
theorem sd_bin {o : Op} {a b : E} (ha : SdE G a) (hb : SdE G b) : SdE G (.bin o a b) := by
  intro N sc e hc X W k cx tk gk σ H Z env F P R nb rx Q ok
  cases e with
  | BinOp x op y pos =>
    simp only [chkE, Bool.and_eq_true, decide_eq_true_eq] at hc
    obtain ⟨⟨⟨rfl, ca⟩, cb⟩, hs⟩ := hc
    simp only [evE] at nb rx ok
    refine wE_of (pe_op (opBinR o) pe_w pe_w) ?_
    refine two ha hb ca cb hs cx tk gk R nb rx fun d e env2 nb2 eq v u H2 Z2 F2 n q dv du => ?_
    obtain ⟨r, hr⟩ := ofO_nb nb2
    exact ⟨Z2, d, e, r, n.rel.sub, dv, du.1, hr, gives_of n q fun v' H' Z' F' n' q' d' => ok r env2 (eq.trans (ofO_ok hr)) v' H' Z' F' n' q' d'⟩
  | _ => simp [chkE] at hc
theorem cmp1_shape {e : Expr} {P : Prop} (f : ∀ x op y pos, e = .Compare x [op] [y] pos → P) (n : (∀ x op y pos, e ≠ .Compare x [op] [y] pos) → P) : P := by
  cases e with
  | Compare x ops cs pos =>
    match ops, cs with
    | [op], [y] => exact f _ _ _ _ rfl
    | [], _ => exact n fun _ _ _ _ h => by cases h
    | [_], [] => exact n fun _ _ _ _ h => by cases h
    | [_], _ :: _ :: _ => exact n fun _ _ _ _ h => by cases h
    | _ :: _ :: _, _ => exact n fun _ _ _ _ h => by cases h
  | _ => exact n fun _ _ _ _ h => by cases h
theorem sd_cmp {o : Cm} {a b : E} (ha : SdE G a) (hb : SdE G b) : SdE G (.cmp o a b) := by
  intro N sc e hc X W k cx tk gk σ H Z env F P R nb rx Q ok
  refine cmp1_shape (e := e) (fun x op y pos he => ?_) fun no => ?_
  · subst he
    simp only [chkE, Bool.and_eq_true, decide_eq_true_eq] at hc
    obtain ⟨⟨⟨⟨rfl, ca⟩, cb⟩, hs⟩, hm⟩ := hc
    simp only [evE] at nb rx ok
    refine wE_of (pe_cmpR (opCmpR o cx.hu) pe_w pe_w (plM_mark hm)) ?_
    refine two ha hb ca cb hs cx tk gk R nb rx fun d e env2 nb2 eq v u H2 Z2 F2 n q dv du => ?_
    obtain ⟨r, hr⟩ := ofO_nb nb2
    exact ⟨Z2, d, e, r, n.rel.sub, dv, du.1, hr, gives_of n q fun v' H' Z' F' n' q' d' => ok r env2 (eq.trans (ofO_ok hr)) v' H' Z' F' n' q' d'⟩
  · exfalso
    unfold chkE at hc
    split at hc <;> first | contradiction | exact no _ _ _ _ rfl
theorem sd_ix {a b : E} (ha : SdE G a) (hb : SdE G b) : SdE G (.ix a b) := by
  intro N sc e hc X W k cx tk gk σ H Z env F P R nb rx Q ok
  cases e with
  | Subscript x y pos =>
    simp only [chkE, Bool.and_eq_true, decide_eq_true_eq] at hc
    obtain ⟨⟨⟨ca, cb⟩, hs⟩, hi⟩ := hc
    simp only [evE] at nb rx ok
    refine wE_of (pe_ix ixR pe_w pe_w (plI_ix hi)) ?_
    refine two ha hb ca cb hs cx tk gk R nb rx fun d e env2 nb2 eq v u H2 Z2 F2 n q dv du => ?_
    obtain ⟨r, hr⟩ := ofO_nb nb2
    exact ⟨Z2, d, e, r, n.rel.sub, dv, du.1, hr, gives_of n q fun v' H' Z' F' n' q' d' => ok r env2 (eq.trans (ofO_ok hr)) v' H' Z' F' n' q' d'⟩
  | _ => simp [chkE] at hc
end
end Mp

end
section
set_option Elab.async false
set_option linter.all false
set_option maxRecDepth 100000
set_option autoImplicit false
/-! MiniPy, part K: expressions, lists of them, tests, places are sound. -/
namespace Mp
open PySem PySem.Spec PyProof.Rows L2

section
variable {G : Gl}
theorem chain_shape {e : Expr} {P : Prop} (f : ∀ x op op' y z pos, e = .Compare x [op, op'] [y, z] pos → P) (n : (∀ x op op' y z pos, e ≠ .Compare x [op, op'] [y, z] pos) → P) : P := by
  cases e with
  | Compare x ops cs pos =>
    match ops, cs with
    | [op, op'], [y, z] => exact f _ _ _ _ _ _ rfl
    | [], _ => exact n fun _ _ _ _ _ _ h => by cases h
    | [_], _ => exact n fun _ _ _ _ _ _ h => by cases h
    | [_, _], [] => exact n fun _ _ _ _ _ _ h => by cases h
    | [_, _], [_] => exact n fun _ _ _ _ _ _ h => by cases h
    | [_, _], _ :: _ :: _ :: _ => exact n fun _ _ _ _ _ _ h => by cases h
    | _ :: _ :: _ :: _, _ => exact n fun _ _ _ _ _ _ h => by cases h
  | _ => exact n fun _ _ _ _ _ _ h => by cases h
theorem sd_neg {a : E} (ha : SdE G a) : SdE G (.neg a) := by
  intro N sc e hc X W k cx tk gk σ H Z env F P R nb rx Q ok
  cases e with
  | UnaryOp op x pos =>
    cases op with
    | USub =>
      simp only [chkE] at hc
      simp only [evE] at nb rx ok
      refine wE_of (pe_un un_neg pe_w) ?_
      refine ha N sc x hc X W k cx tk gk σ H Z env F P R (bind_nb nb) (rx.next (Nx.refl R) fun z env' h => bind_rx h) _ fun d env1 h1 v H1 Z1 F1 n1 q1 d1 => ?_
      rw [h1] at nb ok
      simp only [bind_ok] at nb ok
      cases d with
      | int i =>
        have ev := d1.1.int
        subst ev
        exact ⟨i, rfl, ok _ env1 rfl _ H1 Z1 F1 n1 q1 ⟨.inl (.int _), fun _ => .int _⟩⟩
      | _ => exact absurd rfl nb
    | _ => simp [chkE] at hc
  | _ => simp [chkE] at hc
theorem sd_tup {es : E} (ha : SdEs G es) : SdE G (.tup es) := by
  intro N sc e hc X W k cx tk gk σ H Z env F P R nb rx Q ok
  cases e with
  | Tuple xs _ pos =>
    simp only [chkE, Bool.and_eq_true] at hc
    simp only [evE] at nb rx ok
    refine wE_of (pe_tup pa_w) ?_
    refine ha N sc xs hc.1 X W k cx tk gk σ H Z env F P R (bind_nb nb) (rx.next (Nx.refl R) fun z env' h => bind_rx h) _ fun ds env1 h1 vs H1 Z1 F1 n1 q1 d1 d2 => ?_
    rw [h1] at nb ok
    simp only [bind_ok] at nb ok
    have dz := d2 hc.2
    split at nb
    · rename_i hz
      rw [if_pos hz] at ok
      refine ⟨by rw [dpAll_len dz]; exact hz, fun p hp => ?_⟩
      exact (gives_of n1 q1 fun v' H' Z' F' n' q' d' => ok _ env1 rfl v' H' Z' F' n' q' d').tup n1.rel.sub dz hp
    · exact absurd rfl nb
  | _ => simp [chkE] at hc
theorem sd_lst {es : E} (ha : SdEs G es) : SdE G (.lst es) := by
  intro N sc e hc X W k cx tk gk σ H Z env F P R nb rx Q ok
  cases e with
  | List xs pos =>
    simp only [chkE, Bool.and_eq_true] at hc
    simp only [evE] at nb rx ok
    refine wE_of (pe_lst pa_w) ?_
    refine ha N sc xs hc.1 X W k cx tk gk σ H Z env F P R (bind_nb nb) (rx.next (Nx.refl R) fun z env' h => bind_rx h) _ fun ds env1 h1 vs H1 Z1 F1 n1 q1 d1 d2 => ?_
    rw [h1] at nb ok
    simp only [bind_ok] at nb ok
    have dz := d2 hc.2
    split at nb
    · rename_i hz
      rw [if_pos hz] at ok
      refine ⟨by rw [dpAll_len dz]; exact hz, fun p hp => ?_⟩
      exact (gives_of n1 q1 fun v' H' Z' F' n' q' d' => ok _ env1 rfl v' H' Z' F' n' q' d').lst n1.rel.sub dz hp
    · exact absurd rfl nb
  | _ => simp [chkE] at hc
theorem sd_chain {o o' : Cm} {a b c : E} (ha : SdE G a) (hb : SdE G b) (hcc : SdE G c) : SdE G (.chain o o' a b c) := by
  intro N sc e hc X W k cx tk gk σ H Z env F P R nb rx Q ok
  refine chain_shape (e := e) (fun x op op' y z pos he => ?_) fun no => ?_
  · subst he
    simp only [chkE, Bool.and_eq_true, decide_eq_true_eq] at hc
    obtain ⟨⟨⟨⟨⟨⟨⟨⟨rfl, rfl⟩, ca⟩, cb⟩, ccc⟩, hs⟩, sb⟩, hm⟩, hm'⟩ := hc
    simp only [evE] at nb rx ok
    refine wE_of (pe_chain (opCmpR o cx.hu) (opCmpR o' cx.hu) pe_w pe_w pe_w (plM_mark hm')) ?_
    refine two ha hb ca cb hs cx tk gk R nb rx fun d e env2 nb2 eq v u H2 Z2 F2 n q dv du => ?_
    rw [eq] at ok rx
    cases hr : opCmp o d e with
    | none => rw [hr] at nb2; exact absurd rfl nb2
    | some kk =>
      rw [hr] at nb2 ok rx
      refine ⟨Z2, d, e, .bool kk, n.rel.sub, dv, du.1, by simp [hr], ?_, fun p u' hp hd => by cases hd⟩
      intro w hw
      cases hw
      refine ⟨kk, rfl, ?_⟩
      cases kk with
      | false =>
        simp only [Bool.false_eq_true, if_false]
        exact ok _ env2 rfl _ H2 Z2 F2 n (fun z => q (by simp only [quiet, Bool.and_eq_true] at z ⊢; exact z.1)) ⟨.inl (.bl _), fun _ => .bl _⟩
      | true =>
        simp only [if_true]
        simp only at nb2 ok rx
        refine hcc N sc z ccc X W k cx tk gk σ H2 Z2 env2 F2 P n.rel (bind_nb nb2) (rx.next n fun z env' h => bind_rx h) _ fun d3 env3 h3 w H3 Z3 F3 n3 q3 dw => ?_
        rw [h3] at nb2 ok
        simp only [bind_ok] at nb2 ok
        obtain ⟨r, hr'⟩ := ofO_nb nb2
        have du' : Dq X.K Z3 H3 u e := .inl (dp_same n3.stp.zz (du.2 sb))
        refine ⟨Z3, e, d3, r, n3.rel.sub, du', dw.1, hr', gives_of (n.trans n3) (q := quiet (.chain o o' a b c)) (fun z => ?_) fun v' H' Z' F' n' q' d' => ok r env3 (ofO_ok hr') v' H' Z' F' n' q' d'⟩
        simp only [quiet, Bool.and_eq_true] at z
        obtain ⟨a1, a2, a3⟩ := q (by rw [Bool.and_eq_true]; exact z.1)
        obtain ⟨b1, b2, b3⟩ := q3 z.2
        exact ⟨a1.trans b1, b2.trans a2, b3.trans a3⟩
  · exfalso
    unfold chkE at hc
    split at hc <;> first | contradiction | exact no _ _ _ _ _ _ rfl
theorem sd_not {a : E} (ha : SdE G a) : SdE G (.not a) := by
  intro N sc e hc X W k cx tk gk σ H Z env F P R nb rx Q ok
  cases e with
  | UnaryOp op x pos =>
    cases op with
    | Not =>
      simp only [chkE] at hc
      simp only [evE] at nb rx ok
      refine wE_of (pe_not pe_w) ?_
      refine ha N sc x hc X W k cx tk gk σ H Z env F P R (bind_nb nb) (rx.next (Nx.refl R) fun z env' h => bind_rx h) _ fun d env1 h1 v H1 Z1 F1 n1 q1 d1 => ?_
      rw [h1] at nb ok
      simp only [bind_ok] at nb ok
      cases d with
      | bool i =>
        have ev := d1.1.bool
        subst ev
        exact ⟨i, rfl, ok _ env1 rfl _ H1 Z1 F1 n1 q1 ⟨.inl (.bl _), fun _ => .bl _⟩⟩
      | _ => exact absurd rfl nb
    | _ => simp [chkE] at hc
  | _ => simp [chkE] at hc
theorem sd_oneE {a : E} (ha : SdE G a) : SdE G (.one a) := by
  intro N sc e hc X W k cx tk gk σ H Z env F P R nb rx Q ok
  cases e with
  | BoolOp op xs pos =>
    match xs with
    | [x] =>
      simp only [chkE] at hc
      simp only [evE] at nb rx ok
      refine wE_of (pe_one pe_w) ?_
      exact ha N sc x hc X W k cx tk gk σ H Z env F P R nb rx Q ok
    | [] => simp [chkE] at hc
    | _ :: _ :: _ => simp [chkE] at hc
  | _ => simp [chkE] at hc
theorem sd_andE {a b : E} (ha : SdE G a) (hb : SdE G b) : SdE G (.and a b) := by
  intro N sc e hc X W k cx tk gk σ H Z env F P R nb rx Q ok
  cases e with
  | BoolOp op xs pos =>
    match op, xs with
    | .And, x :: y :: r =>
      simp only [chkE, Bool.and_eq_true] at hc
      simp only [evE] at nb rx ok
      refine wE_of (pe_and (pos := pos) pe_w pe_w) ?_
      refine ha N sc x hc.1 X W k cx tk gk σ H Z env F P R (bind_nb nb) (rx.next (Nx.refl R) fun z env' h => bind_rx h) _ fun d env1 h1 v H1 Z1 F1 n1 q1 d1 => ?_
      rw [h1] at nb ok rx
      simp only [bind_ok] at nb ok rx
      cases d with
      | bool i =>
        have ev := d1.1.bool
        subst ev
        refine ⟨i, rfl, ?_⟩
        cases i with
        | false =>
          simp only [Bool.false_eq_true, if_false]
          exact ok _ env1 rfl _ H1 Z1 F1 n1 (fun z => q1 (by simp only [quiet, Bool.and_eq_true] at z; exact z.1)) ⟨.inl (.bl _), fun _ => .bl _⟩
        | true =>
          simp only [if_true]
          refine hb N sc _ hc.2 X W k cx tk gk σ H1 Z1 env1 F1 P n1.rel nb (rx.next n1 fun z env' h => h) _ fun d2 env2 h2 w H2 Z2 F2 n2 q2 d2' => ?_
          refine ok d2 env2 h2 w H2 Z2 F2 (n1.trans n2) (fun z => ?_) d2'
          simp only [quiet, Bool.and_eq_true] at z
          obtain ⟨a1, a2, a3⟩ := q1 z.1
          obtain ⟨b1, b2, b3⟩ := q2 z.2
          exact ⟨a1.trans b1, b2.trans a2, b3.trans a3⟩
      | _ => exact absurd rfl nb
    | .And, [] => simp [chkE] at hc
    | .And, [_] => simp [chkE] at hc
    | .Or, _ => simp [chkE] at hc
  | _ => simp [chkE] at hc
theorem sd_orE {a b : E} (ha : SdE G a) (hb : SdE G b) : SdE G (.or a b) := by
  intro N sc e hc X W k cx tk gk σ H Z env F P R nb rx Q ok
  cases e with
  | BoolOp op xs pos =>
    match op, xs with
    | .Or, x :: y :: r =>
      simp only [chkE, Bool.and_eq_true] at hc
      simp only [evE] at nb rx ok
      refine wE_of (pe_or (pos := pos) pe_w pe_w) ?_
      refine ha N sc x hc.1 X W k cx tk gk σ H Z env F P R (bind_nb nb) (rx.next (Nx.refl R) fun z env' h => bind_rx h) _ fun d env1 h1 v H1 Z1 F1 n1 q1 d1 => ?_
      rw [h1] at nb ok rx
      simp only [bind_ok] at nb ok rx
      cases d with
      | bool i =>
        have ev := d1.1.bool
        subst ev
        refine ⟨i, rfl, ?_⟩
        cases i with
        | true =>
          simp only [if_true]
          exact ok _ env1 rfl _ H1 Z1 F1 n1 (fun z => q1 (by simp only [quiet, Bool.and_eq_true] at z; exact z.1)) ⟨.inl (.bl _), fun _ => .bl _⟩
        | false =>
          simp only [Bool.false_eq_true, if_false]
          refine hb N sc _ hc.2 X W k cx tk gk σ H1 Z1 env1 F1 P n1.rel nb (rx.next n1 fun z env' h => h) _ fun d2 env2 h2 w H2 Z2 F2 n2 q2 d2' => ?_
          refine ok d2 env2 h2 w H2 Z2 F2 (n1.trans n2) (fun z => ?_) d2'
          simp only [quiet, Bool.and_eq_true] at z
          obtain ⟨a1, a2, a3⟩ := q1 z.1
          obtain ⟨b1, b2, b3⟩ := q2 z.2
          exact ⟨a1.trans b1, b2.trans a2, b3.trans a3⟩
      | _ => exact absurd rfl nb
    | .Or, [] => simp [chkE] at hc
    | .Or, [_] => simp [chkE] at hc
    | .And, _ => simp [chkE] at hc
  | _ => simp [chkE] at hc
theorem sd_ife {c a b : E} (hcc : SdT G c) (ha : SdE G a) (hb : SdE G b) : SdE G (.ife c a b) := by
  intro N sc e hc X W k cx tk gk σ H Z env F P R nb rx Q ok
  cases e with
  | IfExp c' x y pos =>
    simp only [chkE, Bool.and_eq_true] at hc
    simp only [evE] at nb rx ok
    refine wE_of (pe_ifExp pt_w pe_w pe_w) ?_
    refine (hcc N sc c' hc.1.1 X W k cx tk gk σ H Z env F P R (bind_nb nb) (rx.next (Nx.refl R) fun z env' h => bind_rx h) _ fun d env1 h1 H1 Z1 F1 n1 q1 => ?_).1
    rw [h1] at nb ok rx
    simp only [bind_ok] at nb ok rx
    cases d with
    | true =>
      simp only [if_true] at nb ok rx ⊢
      refine ha N sc _ hc.1.2 X W k cx tk gk σ H1 Z1 env1 F1 P n1.rel nb (rx.next n1 fun z env' h => h) _ fun d2 env2 h2 w H2 Z2 F2 n2 q2 d2' => ?_
      refine ok d2 env2 h2 w H2 Z2 F2 (n1.trans n2) (fun z => ?_) ⟨d2'.1, fun z => d2'.2 (by simp only [stab, Bool.and_eq_true] at z; exact z.1)⟩
      simp only [quiet, Bool.and_eq_true] at z
      obtain ⟨a1, a2, a3⟩ := q1 z.1.1
      obtain ⟨b1, b2, b3⟩ := q2 z.1.2
      exact ⟨a1.trans b1, b2.trans a2, b3.trans a3⟩
    | false =>
      simp only [Bool.false_eq_true, if_false] at nb ok rx ⊢
      refine hb N sc _ hc.2 X W k cx tk gk σ H1 Z1 env1 F1 P n1.rel nb (rx.next n1 fun z env' h => h) _ fun d2 env2 h2 w H2 Z2 F2 n2 q2 d2' => ?_
      refine ok d2 env2 h2 w H2 Z2 F2 (n1.trans n2) (fun z => ?_) ⟨d2'.1, fun z => d2'.2 (by simp only [stab, Bool.and_eq_true] at z; exact z.2)⟩
      simp only [quiet, Bool.and_eq_true] at z
      obtain ⟨a1, a2, a3⟩ := q1 z.1.1
      obtain ⟨b1, b2, b3⟩ := q2 z.2
      exact ⟨a1.trans b1, b2.trans a2, b3.trans a3⟩
  | _ => simp [chkE] at hc

/-! ### lists -/
theorem sd_nil : SdEs G .nil := by
  intro N sc es hc X W k cx tk gk σ H Z env F P R nb rx Q ok
  cases es with
  | nil => exact wA_of pa_nil (ok [] env rfl [] H Z F (Nx.refl R) (fun _ => ⟨Same.refl H, rfl, rfl⟩) .nil fun _ => .nil)
  | cons x xs => simp [chkEs] at hc
theorem sd_cons {a r : E} (ha : SdE G a) (hr : SdEs G r) : SdEs G (.cons a r) := by
  intro N sc es hc X W k cx tk gk σ H Z env F P R nb rx Q ok
  cases es with
  | nil => simp [chkEs] at hc
  | cons x xs =>
    simp only [chkEs, Bool.and_eq_true] at hc
    obtain ⟨⟨⟨ca, cr⟩, hs⟩, hp⟩ := hc
    simp only [evEs] at nb rx ok
    refine wA_of (pa_cons pe_w pa_w (plS_star hp)) ?_
    refine ha N sc x ca X W k cx tk gk σ H Z env F P R (bind_nb nb) (rx.next (Nx.refl R) fun z env' h => bind_rx h) _ fun d env1 h1 v H1 Z1 F1 n1 q1 d1 => ?_
    rw [h1] at nb ok rx
    simp only [bind_ok] at nb ok rx
    refine hr N sc xs cr X W k cx tk gk σ H1 Z1 env1 F1 P n1.rel (bind_nb nb) (rx.next n1 fun z env' h => bind_rx h) _ fun ds env2 h2 vs H2 Z2 F2 n2 q2 d2 d3 => ?_
    rw [h2] at ok
    simp only [bind_ok] at ok
    refine ok (d :: ds) env2 rfl (v :: vs) H2 Z2 F2 (n1.trans n2) (fun z => ?_) (.cons ?_ d2) fun z => ?_
    · simp only [quiet, Bool.and_eq_true] at z
      obtain ⟨a1, a2, a3⟩ := q1 z.1
      obtain ⟨b1, b2, b3⟩ := q2 z.2
      exact ⟨a1.trans b1, b2.trans a2, b3.trans a3⟩
    · rw [Bool.or_eq_true] at hs
      rcases hs with hs | hs
      · exact .inl (dp_same n2.stp.zz (d1.2 hs))
      · exact d1.1.same (q2 hs).1 n2.stp.zz
    · simp only [stabs, Bool.and_eq_true] at z
      exact .cons (dp_same n2.stp.zz (d1.2 z.1)) (d3 z.2)

/-! ### slices -/
theorem sd_noPart : SdPt G .noPart := by
  intro N sc e hc X W k cx tk gk
  cases e with
  | none => exact ⟨_, po_none, fun σ H Z env F P R nb rx Q ok => ok none env rfl H Z F (Nx.refl R) fun _ => ⟨Same.refl H, rfl, rfl⟩⟩
  | some x => simp [chkPt] at hc
theorem sd_part {a : E} (ha : SdE G a) : SdPt G (.part a) := by
  intro N sc e hc X W k cx tk gk
  cases e with
  | none => simp [chkPt] at hc
  | some x =>
    simp only [chkPt] at hc
    refine ⟨_, po_some pe_w, fun σ H Z env F P R nb rx Q ok => ?_⟩
    simp only [evPt] at nb rx ok
    refine ha N sc x hc X W k cx tk gk σ H Z env F P R (bind_nb nb) (rx.next (Nx.refl R) fun z env' h => bind_rx h) _ fun d env1 h1 v H1 Z1 F1 n1 q1 d1 => ?_
    rw [h1] at nb ok
    simp only [bind_ok] at nb ok
    cases d with
    | int i => exact ⟨i, d1.1.int, ok (some i) env1 rfl H1 Z1 F1 n1 q1⟩
    | _ => exact absurd rfl nb
theorem sd_sl {a lo hi : E} (ha : SdE G a) (hl : SdPt G lo) (hh : SdPt G hi) : SdE G (.sl a lo hi) := by
  intro N sc e hc X W k cx tk gk σ H Z env F P R nb rx Q ok
  cases e with
  | Subscript x y pos =>
    cases y with
    | Slice l u st p2 =>
      cases st with
      | none =>
        simp only [chkE, Bool.and_eq_true] at hc
        obtain ⟨⟨⟨ca, cl⟩, ch⟩, hs⟩ := hc
        simp only [evE] at nb rx ok
        obtain ⟨tl, pl, fl⟩ := hl N sc l cl X W k cx tk gk
        obtain ⟨th, ph, fh⟩ := hh N sc u ch X W k cx tk gk
        refine wE_of (pe_slice slR pe_w pl ph) ?_
        refine ha N sc x ca X W k cx tk gk σ H Z env F P R (bind_nb nb) (rx.next (Nx.refl R) fun z env' h => bind_rx h) _ fun d env1 h1 v H1 Z1 F1 n1 q1 d1 => ?_
        rw [h1] at nb ok rx
        simp only [bind_ok] at nb ok rx
        refine fl σ H1 Z1 env1 F1 P n1.rel (bind_nb nb) (rx.next n1 fun z env' h => bind_rx h) _ fun i env2 h2 H2 Z2 F2 n2 q2 => ?_
        rw [h2] at nb ok rx
        simp only [bind_ok] at nb ok rx
        refine fh σ H2 Z2 env2 F2 P n2.rel (bind_nb nb) (rx.next (n1.trans n2) fun z env' h => bind_rx h) _ fun j env3 h3 H3 Z3 F3 n3 q3 => ?_
        rw [h3] at nb ok
        simp only [bind_ok] at nb ok
        obtain ⟨r, hr⟩ := ofO_nb nb
        have dq : Dq X.K Z3 H3 v d := by
          rw [Bool.or_eq_true] at hs
          rcases hs with hs | hs
          · exact .inl (dp_same n3.stp.zz (dp_same n2.stp.zz (d1.2 hs)))
          · rw [Bool.and_eq_true] at hs
            exact (d1.1.same (q2 hs.1).1 n2.stp.zz).same (q3 hs.2).1 n3.stp.zz
        refine ⟨Z3, d, r, n3.rel.sub, dq, hr, gives_of ((n1.trans n2).trans n3) (q := quiet (.sl a lo hi)) (fun z => ?_) fun v' H' Z' F' n' q' d' => ok r env3 (ofO_ok hr) v' H' Z' F' n' q' d'⟩
        simp only [quiet, Bool.and_eq_true] at z
        obtain ⟨a1, a2, a3⟩ := q1 z.1.1
        obtain ⟨b1, b2, b3⟩ := q2 z.1.2
        obtain ⟨c1, c2, c3⟩ := q3 z.2
        exact ⟨(a1.trans b1).trans c1, (c2.trans b2).trans a2, (c3.trans b3).trans a3⟩
      | some _ => simp [chkE] at hc
    | _ => simp [chkE] at hc
  | _ => simp [chkE] at hc

/-! ### built-in functions, methods of texts -/
theorem biR {N : List Str} {sc : Scope} {k : Nat} {X : Cx} (cx : CxOk N sc k X) : ∀ f : Bi, CallR X (biV f) (rPL X.K (opBi f))
  | .len => lenR
  | .abs => absR
  | .int => intR
  | .str => strR
  | .sum => sumR cx.calm
  | .any => anyR cx.calm
  | .all => allR cx.calm
  | .min2 => minR cx.calm
  | .max2 => maxR cx.calm
  | .sorted => sortedR
  | .list => listR
  | .tuple => tupleR
  | .minL => fun pins s σ H xs us Q I rx ⟨_, _, _, _, _, h, _⟩ => by simp [opBi] at h
  | .maxL => fun pins s σ H xs us Q I rx ⟨_, _, _, _, _, h, _⟩ => by simp [opBi] at h
  | .repr => fun pins s σ H xs us Q I rx ⟨Z, ds, r, zh, hx, hr, g⟩ => by
    refine reprR cx.guards cx.hu pins s σ H xs us Q I rx ⟨Z, ds, r, zh, hx, ?_, g⟩
    match ds, hr with
    | [d], hr => exact hr
    | [], hr => simp [opBi] at hr
    | _ :: _ :: _, hr => simp [opBi] at hr
theorem chkEs_cons {N : List Str} {sc : Scope} {es : E} {y : Expr} {ys : List Expr} (h : chkEs N sc es (y :: ys) = true) : ∃ a r, es = .cons a r ∧ chkE N sc a y = true ∧ chkEs N sc r ys = true ∧ (stab a || quiet r) = true ∧ plS y = true := by
  cases es with
  | cons a r =>
    simp only [chkEs, Bool.and_eq_true] at h
    exact ⟨a, r, rfl, h.1.1.1, h.1.1.2, h.1.2, h.2⟩
  | _ => simp [chkEs] at h
theorem chkEs_star {N : List Str} {sc : Scope} : ∀ {xs : List Expr} {es : E}, chkEs N sc es xs = true → ∀ x ∈ xs, plS x = true
  | [], _, _ => fun x hx => by cases hx
  | y :: ys, es, h => by
    obtain ⟨a, r, rfl, _, h2, _, h4⟩ := chkEs_cons h
    intro x hx
    rcases List.mem_cons.mp hx with rfl | hx
    · exact h4
    · exact chkEs_star h2 x hx
theorem dpAll_reverse {K : PySem.W.Frag} {Z : Hp} : ∀ {vs : List V} {ds : List PyData}, DzAll K Z vs ds → DzAll K Z vs.reverse ds.reverse
  | [], [], h => h
  | v :: vs, d :: ds, .cons h r => by
    rw [List.reverse_cons, List.reverse_cons]
    exact dpAll_append (dpAll_reverse r) (.cons h .nil)
theorem sd_rev {a : E} (ha : SdE G a) : SdE G (.rev a) := by
  intro N sc e hc X W k cx tk gk σ H Z env F P R nb rx Q ok
  have sh : ∃ x kk p1 p2 p3 pos, e = .Subscript x (.Slice none none (some (.UnaryOp .USub (.Constant (.int 1) kk p1) p2)) p3) pos := by
    unfold chkE at hc
    split at hc <;> first | contradiction | exact ⟨_, _, _, _, _, _, rfl⟩
  obtain ⟨x, kk, p1, p2, p3, pos, rfl⟩ := sh
  simp only [chkE] at hc
  simp only [evE] at nb rx ok
  refine wE_of (pe_revL pe_w) ?_
  refine ha N sc x hc X W k cx tk gk σ H Z env F P R (bind_nb nb) (rx.next (Nx.refl R) fun z env' h => bind_rx h) _ fun d env1 h1 v H1 Z1 F1 n1 q1 d1 => ?_
  rw [h1] at nb ok
  simp only [bind_ok] at nb ok
  cases d with
  | list xs =>
    obtain ⟨b, vs, rfl, r1, z1⟩ := d1.1.list n1.rel.sub
    exact ⟨b, vs, rfl, .inl r1, fun p hp => (gives_of n1 q1 fun v' H' Z' F' n' q' d' => ok _ env1 rfl v' H' Z' F' n' q' d').lst n1.rel.sub (dpAll_reverse z1) hp⟩
  | _ => exact absurd rfl nb
theorem sd_sset {a : E} (ha : SdE G a) : SdE G (.sset a) := by
  intro N sc e hc X W k cx tk gk σ H Z env F P R nb rx Q ok
  have sh : ∃ x p z pz y pp pos, e = .Call (.Name x p) [.Call (.Name z pz) [y] [] pp] [] pos := by
    unfold chkE at hc
    split at hc <;> first | contradiction | exact ⟨_, _, _, _, _, _, _, rfl⟩
  obtain ⟨x, p, z, pz, y, pp, pos, rfl⟩ := sh
  simp only [chkE, Bool.and_eq_true, decide_eq_true_eq] at hc
  obtain ⟨⟨⟨⟨⟨rfl, hg⟩, rfl⟩, hz⟩, ca⟩, sy⟩ := hc
  obtain ⟨g1, g2, g3⟩ := globB_gl cx hg
  obtain ⟨z1, z2, z3⟩ := globB_gl cx hz
  simp only [evE] at nb rx ok
  refine wE_of (pe_sset g1 (gk.bi .sorted) z1 gk.rg.2.2.1 pe_w cx.calm (plS_star sy)) ?_
  refine ha N sc y ca X W k cx tk gk σ H Z env F P R (bind_nb nb) (rx.next (Nx.refl R) fun z env' h => bind_rx h) _ fun d env1 h1 v H1 Z1 F1 n1 q1 d1 => ?_
  rw [h1] at nb ok
  simp only [bind_ok] at nb ok
  obtain ⟨r, hr⟩ := ofO_nb nb
  have hr0 := hr
  cases d with
  | list xs =>
    obtain ⟨b, vs, rfl, r1, zz⟩ := d1.1.list n1.rel.sub
    obtain ⟨ns, e1, e2⟩ := Option.bind_eq_some_iff.mp (show (intsOf xs).bind _ = some r from hr)
    have ev := dzInts zz e1
    subst ev
    split at e2
    · rename_i hb
      cases e2
      exact ⟨b, ns, rfl, .inl r1, hb.1, hb.2, fun p hp => (gives_of n1 q1 fun v' H' Z' F' n' q' d' => ok _ env1 (ofO_ok hr0) v' H' Z' F' n' q' d').lst n1.rel.sub (dzOfInts _) hp⟩
    · cases e2
  | _ => cases hr
theorem ty_of {K : PySem.W.Frag} {Z H : Hp} {v : V} {d : PyData} {a : Nat} (h : Dq K Z H v d) (zh : Same Z H) (e : tyD d = some a) : ∃ t, TyX K H v (.type t) ∧ ((a = 0 ∧ t = "int") ∨ (a = 1 ∧ t = "bool") ∨ (a = 2 ∧ t = "str") ∨ (a = 3 ∧ t = "list") ∨ (a = 4 ∧ t = "tuple")) := by
  cases d with
  | int i => cases e; have := h.int; subst this; exact ⟨_, .base (.int i), .inl ⟨rfl, rfl⟩⟩
  | bool i => cases e; have := h.bool; subst this; exact ⟨_, .base (.bl i), .inr (.inl ⟨rfl, rfl⟩)⟩
  | str i => cases e; have := h.str; subst this; exact ⟨_, .base (.str i), .inr (.inr (.inl ⟨rfl, rfl⟩))⟩
  | list xs =>
    cases e
    obtain ⟨a, vs, rfl, r, _⟩ := h.list zh
    rcases r with r | ⟨o, r⟩
    · exact ⟨_, .base (.lst r), .inr (.inr (.inr (.inl ⟨rfl, rfl⟩)))⟩
    · exact ⟨_, .base (.frz r), .inr (.inr (.inr (.inl ⟨rfl, rfl⟩)))⟩
  | tuple xs =>
    cases e
    obtain ⟨a, vs, rfl, r, _⟩ := h.tup
    rcases sqT_same zh r with (r | ⟨o, r⟩) | ⟨o, its, n, h1, h2, _⟩
    · exact ⟨_, .base (.tup r), .inr (.inr (.inr (.inr ⟨rfl, rfl⟩)))⟩
    · exact ⟨_, .fTuple r, .inr (.inr (.inr (.inr ⟨rfl, rfl⟩)))⟩
    · exact ⟨_, .kTuple h1 h2, .inr (.inr (.inr (.inr ⟨rfl, rfl⟩)))⟩
  | _ => cases e
theorem kit_isi {K : PySem.W.Frag} {a t : Nat} {s : String} (ht : t ≤ 4) (h : (a = 0 ∧ s = "int") ∨ (a = 1 ∧ s = "bool") ∨ (a = 2 ∧ s = "str") ∨ (a = 3 ∧ s = "list") ∨ (a = 4 ∧ s = "tuple")) : ∃ n, tyNm t = Str.ofString n ∧ bootBuiltins (tyNm t) = some (.type n) ∧ PySem.W.kitOne K (.type s) (.type n) = some (decide (a = t) || (decide (a = 1) && decide (t = 0))) := by
  have h5 : t = 0 ∨ t = 1 ∨ t = 2 ∨ t = 3 ∨ t = 4 := by omega
  rcases h5 with rfl | rfl | rfl | rfl | rfl <;> rcases h with ⟨rfl, rfl⟩ | ⟨rfl, rfl⟩ | ⟨rfl, rfl⟩ | ⟨rfl, rfl⟩ | ⟨rfl, rfl⟩ <;> exact ⟨_, rfl, by decide +kernel, kit_ty (by decide +kernel)⟩
theorem sd_isi {t : Nat} {a : E} (ha : SdE G a) : SdE G (.isi t a) := by
  intro N sc e hc X W k cx tk gk σ H Z env F P R nb rx Q ok
  have sh : ∃ x p y z pz pos, e = .Call (.Name x p) [y, .Name z pz] [] pos := by
    unfold chkE at hc
    split at hc <;> first | contradiction | exact ⟨_, _, _, _, _, _, rfl⟩
  obtain ⟨x, p, y, z, pz, pos, rfl⟩ := sh
  simp only [chkE, Bool.and_eq_true, decide_eq_true_eq] at hc
  obtain ⟨⟨⟨⟨⟨⟨rfl, hg⟩, rfl⟩, hz⟩, ca⟩, sy⟩, ht⟩ := hc
  obtain ⟨g1, g2, g3⟩ := globB_gl cx hg
  obtain ⟨z1, z2, z3⟩ := globB_gl cx hz
  simp only [evE] at nb rx ok
  obtain ⟨n, hn, hb, _⟩ := kit_isi (K := X.K) (a := 0) (s := "int") ht (.inl ⟨rfl, rfl⟩)
  have hm : X.mg (tyNm t) = none := by
    have h5 : t = 0 ∨ t = 1 ∨ t = 2 ∨ t = 3 ∨ t = 4 := by omega
    rcases h5 with rfl | rfl | rfl | rfl | rfl
    · exact gk.bi .int
    · exact gk.rg.2.2.2.2
    · exact gk.bi .str
    · exact gk.bi .list
    · exact gk.bi .tuple
  refine wE_of (pe_callB call_isi g1 gk.rg.2.2.2.1 (by decide +kernel) (pa_cons pe_w (pa_cons (pe_bltn (v := .ty n) z1 hm hb rfl z3 z2) pa_nil) (plS_star sy)) g3 g2 (plS_star sy)) ?_
  refine ha N sc y ca X W k cx tk gk σ H Z env F P R (bind_nb nb) (rx.next (Nx.refl R) fun z env' h => bind_rx h) _ fun d env1 h1 v H1 Z1 F1 n1 q1 d1 => ?_
  rw [h1] at nb ok
  simp only [bind_ok] at nb ok
  obtain ⟨r, hr⟩ := ofO_nb nb
  obtain ⟨b, hb2, rfl⟩ := Option.map_eq_some_iff.mp hr
  obtain ⟨a0, e0, rfl⟩ := Option.map_eq_some_iff.mp hb2
  obtain ⟨s, ty, hs⟩ := ty_of d1.1 n1.rel.sub e0
  obtain ⟨n', hn', hb', hk⟩ := kit_isi (K := X.K) ht hs
  have : n' = n := by
    rw [hb] at hb'
    cases hb'
    rfl
  subst this
  refine ⟨v, .ty n', .type s, .type n', _, rfl, .ty n', ty, hk, ?_⟩
  exact ok _ env1 (ofO_ok hr) _ H1 Z1 F1 n1 q1 ⟨.inl (.bl _), fun _ => .bl _⟩
theorem sd_bi {f : Bi} {es : E} (ha : SdEs G es) : SdE G (.bi f es) := by
  intro N sc e hc X W k cx tk gk σ H Z env F P R nb rx Q ok
  cases e with
  | Call fn args kws pos =>
    match fn, args, kws with
    | .Name x p, a :: r, [] =>
      simp only [chkE, Bool.and_eq_true, decide_eq_true_eq] at hc
      obtain ⟨⟨rfl, hg⟩, ca⟩ := hc
      obtain ⟨g1, g2, g3⟩ := globB_gl cx hg
      have st := chkEs_star ca
      have hs := plS_star (xs := r) (env := X.env) (st a List.mem_cons_self)
      have hn := stars_no (pos := pos) (env := X.env) fun x hx => st x (List.mem_cons_of_mem _ hx)
      simp only [evE] at nb rx ok
      have fin : ∀ {t : TE}, PE X (.Call (.Name (biName f) p) (a :: r) [] pos) (tCB (rPL X.K (opBi f)) (wA X (a :: r))) → wE X (.Call (.Name (biName f) p) (a :: r) [] pos) σ H Q := fun h => by
        refine wE_of h ?_
        refine ha N sc _ ca X W k cx tk gk σ H Z env F P R (bind_nb nb) (rx.next (Nx.refl R) fun z env' h => bind_rx h) _ fun ds env1 h1 vs H1 Z1 F1 n1 q1 d1 d2 => ?_
        rw [h1] at nb ok
        simp only [bind_ok] at nb ok
        obtain ⟨r, hr⟩ := ofO_nb nb
        exact ⟨Z1, ds, r, n1.rel.sub, d1, hr, gives_of n1 q1 fun v' H' Z' F' n' q' d' => ok r env1 (ofO_ok hr) v' H' Z' F' n' q' d'⟩
      have hb := biBoot f
      have hm := gk.bi f
      have hR := biR cx f
      cases f <;> first
        | exact fin (t := fun _ _ _ => True) (pe_callB hR g1 hm hb pa_w g3 g2 hs hn)
        | exact fin (t := fun _ _ _ => True) (pe_callTy hR g1 hm hb pa_w g3 g2 hs hn)
    | .Name x p, [], [] => simp [chkE] at hc
    | .Name x p, _, _ :: _ => simp [chkE] at hc
    | .BoolOp .., _, _ | .NamedExpr .., _, _ | .BinOp .., _, _ | .UnaryOp .., _, _ | .Lambda .., _, _ | .IfExp .., _, _ | .Dict .., _, _ | .Set .., _, _ | .ListComp .., _, _ | .SetComp .., _, _ | .DictComp .., _, _ | .GeneratorExp .., _, _
    | .Await .., _, _ | .Yield .., _, _ | .YieldFrom .., _, _ | .Compare .., _, _ | .Call .., _, _ | .FormattedValue .., _, _ | .JoinedStr .., _, _ | .Constant .., _, _ | .Attribute .., _, _ | .Subscript .., _, _ | .Starred .., _, _ | .List .., _, _ | .Tuple .., _, _ | .Slice .., _, _ => simp [chkE] at hc
  | _ => simp [chkE] at hc
end
end Mp

end
section
set_option Elab.async false
set_option linter.all false
set_option maxRecDepth 100000
set_option autoImplicit false
/-! MiniPy, part L: methods of texts, tests, places are sound. -/
namespace Mp
open PySem PySem.Spec PyProof.Rows L2

section
variable {G : Gl}
theorem mth_shape {e : Expr} {P : Prop} (f : ∀ x name apos ys pos, e = .Call (.Attribute x name apos) ys [] pos → P) (n : (∀ x name apos ys pos, e ≠ .Call (.Attribute x name apos) ys [] pos) → P) : P := by
  cases e with
  | Call fn args kws pos =>
    cases fn with
    | Attribute x name apos =>
      cases kws with
      | nil => exact f _ _ _ _ _ rfl
      | cons _ _ => exact n fun _ _ _ _ _ h => by cases h
    | _ => exact n fun _ _ _ _ _ h => by cases h
  | _ => exact n fun _ _ _ _ _ h => by cases h
theorem line_eq {a b : Pos} (h : a.endLine = b.line) : (a.endLine == b.line) = true := by rw [h]; simp
theorem sd_mt0 {m : Mt} {a : E} (ha : SdE G a) : SdE G (.mt0 m a) := by
  intro N sc e hc X W k cx tk gk σ H Z env F P R nb rx Q ok
  have sh : ∃ x apos pos, e = .Call (.Attribute x (mtName m) apos) [] [] pos ∧ chkE N sc a x = true ∧ plB x = true ∧ apos.endLine = pos.line ∧ mtZero m = true := by
    refine mth_shape (e := e) (fun x name apos ys pos he => ?_) fun no => ?_
    · subst he
      match ys, hc with
      | [], hc =>
        simp only [chkE, Bool.and_eq_true, decide_eq_true_eq] at hc
        obtain ⟨⟨⟨⟨rfl, c1⟩, c2⟩, c3⟩, c4⟩ := hc
        exact ⟨_, _, _, rfl, c1, c2, c3, c4⟩
      | _ :: _, hc => simp [chkE] at hc
    · exfalso
      unfold chkE at hc
      split at hc <;> first | contradiction | exact no _ _ _ _ _ rfl
  obtain ⟨x, apos, pos, rfl, ca, pb, hl, mz⟩ := sh
  simp only [evE] at nb rx ok
  have go : ∀ (id : String), Slot "str" (mtName m) id → typeOf (.builtin id) = pure (.type "method_descriptor") → MtR X id (rPM X.K (opMt m)) → wE X (.Call (.Attribute x (mtName m) apos) [] [] pos) σ H Q := by
    intro id sl ty rule
    refine wE_of (pe_m0 sl ty rule pe_w (plB_base pb) (line_eq hl)) ?_
    refine ha N sc x ca X W k cx tk gk σ H Z env F P R (bind_nb nb) (rx.next (Nx.refl R) fun z env' h => bind_rx h) _ fun d env1 h1 v H1 Z1 F1 n1 q1 d1 => ?_
    rw [h1] at nb ok
    simp only [bind_ok] at nb ok
    cases d with
    | str z =>
      have ev := d1.1.str
      subst ev
      obtain ⟨r, hr⟩ := ofO_nb nb
      exact ⟨⟨z, rfl⟩, Z1, .str z, [], r, n1.rel.sub, d1.1, .nil, hr, gives_of n1 q1 fun v' H' Z' F' n' q' d' => ok r env1 (ofO_ok hr) v' H' Z' F' n' q' d'⟩
    | _ => exact absurd rfl nb
  cases m with
  | isdigit => exact go _ PySem.F.slot_str_isdigit PySem.F.type_str_isdigit isdigitR
  | isalpha => exact go _ PySem.F.slot_str_isalpha PySem.F.type_str_isalpha isalphaR
  | _ => simp [mtZero] at mz
theorem sd_mt1 {m : Mt} {a b : E} (ha : SdE G a) (hb : SdE G b) : SdE G (.mt1 m a b) := by
  intro N sc e hc X W k cx tk gk σ H Z env F P R nb rx Q ok
  have sh : ∃ x y apos pos, e = .Call (.Attribute x (mtName m) apos) [y] [] pos ∧ chkE N sc a x = true ∧ chkE N sc b y = true ∧ plB x = true ∧ plS y = true ∧ apos.endLine = pos.line ∧ mtOne m = true := by
    refine mth_shape (e := e) (fun x name apos ys pos he => ?_) fun no => ?_
    · subst he
      match ys, hc with
      | [y], hc =>
        simp only [chkE, Bool.and_eq_true, decide_eq_true_eq] at hc
        obtain ⟨⟨⟨⟨⟨⟨rfl, c1⟩, c2⟩, c3⟩, c4⟩, c5⟩, c6⟩ := hc
        exact ⟨_, _, _, _, rfl, c1, c2, c3, c4, c5, c6⟩
      | [], hc => simp [chkE] at hc
      | _ :: _ :: _, hc => simp [chkE] at hc
    · exfalso
      unfold chkE at hc
      split at hc <;> first | contradiction | exact no _ _ _ _ _ rfl
  obtain ⟨x, y, apos, pos, rfl, ca, cb, pb, ps, hl, mz⟩ := sh
  simp only [evE] at nb rx ok
  have go : ∀ (id : String), Slot "str" (mtName m) id → typeOf (.builtin id) = pure (.type "method_descriptor") → MtR X id (rPM X.K (opMt m)) → wE X (.Call (.Attribute x (mtName m) apos) [y] [] pos) σ H Q := by
    intro id sl ty rule
    refine wE_of (pe_m1 sl ty rule pe_w pe_w (plS_star ps) (plB_base pb) (line_eq hl)) ?_
    refine ha N sc x ca X W k cx tk gk σ H Z env F P R (bind_nb nb) (rx.next (Nx.refl R) fun z env' h => bind_rx h) _ fun d env1 h1 v H1 Z1 F1 n1 q1 d1 => ?_
    rw [h1] at nb ok rx
    simp only [bind_ok] at nb ok rx
    cases d with
    | str z =>
      have ev := d1.1.str
      subst ev
      refine ⟨⟨z, rfl⟩, ?_⟩
      simp only at nb ok rx
      refine hb N sc y cb X W k cx tk gk σ H1 Z1 env1 F1 P n1.rel (bind_nb nb) (rx.next n1 fun z env' h => bind_rx h) _ fun d env2 h2 w H2 Z2 F2 n2 q2 d2 => ?_
      rw [h2] at nb ok
      simp only [bind_ok] at nb ok
      obtain ⟨r, hr⟩ := ofO_nb nb
      refine ⟨Z2, .str z, [d], r, n2.rel.sub, .inl (.str z), .cons d2.1 .nil, hr, gives_of (n1.trans n2) (q := quiet (.mt1 m a b)) (fun z => ?_) fun v' H' Z' F' n' q' d' => ok r env2 (ofO_ok hr) v' H' Z' F' n' q' d'⟩
      simp only [quiet, Bool.and_eq_true] at z
      obtain ⟨a1, a2, a3⟩ := q1 z.1
      obtain ⟨b1, b2, b3⟩ := q2 z.2
      exact ⟨a1.trans b1, b2.trans a2, b3.trans a3⟩
    | _ => exact absurd rfl nb
  cases m with
  | join => exact go _ PySem.F.slot_str_join PySem.F.type_str_join joinR
  | split => exact go _ PySem.F.slot_str_split PySem.F.type_str_split splitR
  | strip => exact go _ PySem.F.slot_str_strip PySem.F.type_str_strip stripR
  | _ => simp [mtOne] at mz

/-! ### tests -/
theorem sd_oneT {a : E} (ha : SdT G a) : SdT G (.one a) := by
  intro N sc e hc X W k cx tk gk σ H Z env F P R nb rx Q ok
  cases e with
  | BoolOp op xs pos =>
    match xs with
    | [x] =>
      simp only [chkT] at hc
      simp only [evT] at nb rx ok
      have h := (ha N sc x hc X W k cx tk gk σ H Z env F P R nb rx Q ok).1
      have g : wPW X (.BoolOp op [x] pos) σ H Q := by
        cases op with
        | And => exact wPW_of (pw_and1 pt_w) h
        | Or => exact wPW_of (pw_or1 pt_w) h
      exact ⟨fun pins s I => g _ pins s I, fun _ => g⟩
    | [] => simp [chkT] at hc
    | _ :: _ :: _ => simp [chkT] at hc
  | _ => simp [chkT] at hc
theorem sd_andT {a b : E} (ha : SdT G a) (hb : SdT G b) : SdT G (.and a b) := by
  intro N sc e hc X W k cx tk gk σ H Z env F P R nb rx Q ok
  cases e with
  | BoolOp op xs pos =>
    match op, xs with
    | .And, x :: y :: r =>
      simp only [chkT, Bool.and_eq_true] at hc
      simp only [evT] at nb rx ok
      have g : wPW X (.BoolOp .And (x :: y :: r) pos) σ H Q := by
        refine wPW_of (pw_and (pos := pos) pt_w pw_w) ?_
        refine (ha N sc x hc.1 X W k cx tk gk σ H Z env F P R (bind_nb nb) (rx.next (Nx.refl R) fun z env' h => bind_rx h) _ fun d env1 h1 H1 Z1 F1 n1 q1 => ?_).1
        rw [h1] at nb ok rx
        simp only [bind_ok] at nb ok rx
        cases d with
        | false =>
          simp only [Bool.false_eq_true, if_false] at nb ok rx ⊢
          exact ok _ env1 rfl H1 Z1 F1 n1 fun z => q1 (by simp only [quiet, Bool.and_eq_true] at z; exact z.1)
        | true =>
          simp only [if_true] at nb ok rx ⊢
          refine (hb N sc _ hc.2 X W k cx tk gk σ H1 Z1 env1 F1 P n1.rel nb (rx.next n1 fun z env' h => h) _ fun d2 env2 h2 H2 Z2 F2 n2 q2 => ?_).2 ⟨_, _, _, rfl⟩
          refine ok d2 env2 h2 H2 Z2 F2 (n1.trans n2) fun z => ?_
          simp only [quiet, Bool.and_eq_true] at z
          obtain ⟨a1, a2, a3⟩ := q1 z.1
          obtain ⟨b1, b2, b3⟩ := q2 z.2
          exact ⟨a1.trans b1, b2.trans a2, b3.trans a3⟩
      exact ⟨fun pins s I => g _ pins s I, fun _ => g⟩
    | .And, [] => simp [chkT] at hc
    | .And, [_] => simp [chkT] at hc
    | .Or, _ => simp [chkT] at hc
  | _ => simp [chkT] at hc
theorem sd_orT {a b : E} (ha : SdT G a) (hb : SdT G b) : SdT G (.or a b) := by
  intro N sc e hc X W k cx tk gk σ H Z env F P R nb rx Q ok
  cases e with
  | BoolOp op xs pos =>
    match op, xs with
    | .Or, x :: y :: r =>
      simp only [chkT, Bool.and_eq_true] at hc
      simp only [evT] at nb rx ok
      have g : wPW X (.BoolOp .Or (x :: y :: r) pos) σ H Q := by
        refine wPW_of (pw_or (pos := pos) pt_w pw_w) ?_
        refine (ha N sc x hc.1 X W k cx tk gk σ H Z env F P R (bind_nb nb) (rx.next (Nx.refl R) fun z env' h => bind_rx h) _ fun d env1 h1 H1 Z1 F1 n1 q1 => ?_).1
        rw [h1] at nb ok rx
        simp only [bind_ok] at nb ok rx
        cases d with
        | true =>
          simp only [if_true] at nb ok rx ⊢
          exact ok _ env1 rfl H1 Z1 F1 n1 fun z => q1 (by simp only [quiet, Bool.and_eq_true] at z; exact z.1)
        | false =>
          simp only [Bool.false_eq_true, if_false] at nb ok rx ⊢
          refine (hb N sc _ hc.2 X W k cx tk gk σ H1 Z1 env1 F1 P n1.rel nb (rx.next n1 fun z env' h => h) _ fun d2 env2 h2 H2 Z2 F2 n2 q2 => ?_).2 ⟨_, _, _, rfl⟩
          refine ok d2 env2 h2 H2 Z2 F2 (n1.trans n2) fun z => ?_
          simp only [quiet, Bool.and_eq_true] at z
          obtain ⟨a1, a2, a3⟩ := q1 z.1
          obtain ⟨b1, b2, b3⟩ := q2 z.2
          exact ⟨a1.trans b1, b2.trans a2, b3.trans a3⟩
      exact ⟨fun pins s I => g _ pins s I, fun _ => g⟩
    | .Or, [] => simp [chkT] at hc
    | .Or, [_] => simp [chkT] at hc
    | .And, _ => simp [chkT] at hc
  | _ => simp [chkT] at hc
theorem sd_notT {a : E} (ha : SdT G a) : SdT G (.not a) := by
  intro N sc e hc X W k cx tk gk σ H Z env F P R nb rx Q ok
  cases e with
  | UnaryOp op x pos =>
    cases op with
    | Not =>
      simp only [chkT] at hc
      simp only [evT] at nb rx ok
      refine ⟨wT_of (pt_not pt_w) ?_, fun ⟨_, _, _, h⟩ => by cases h⟩
      refine (ha N sc x hc X W k cx tk gk σ H Z env F P R (bind_nb nb) (rx.next (Nx.refl R) fun z env' h => bind_rx h) _ fun d env1 h1 H1 Z1 F1 n1 q1 => ?_).1
      rw [h1] at ok
      exact ok (!d) env1 rfl H1 Z1 F1 n1 q1
    | _ => simp [chkT] at hc
  | _ => simp [chkT] at hc
theorem sd_tru {a : E} (ha : SdE G a) : SdT G (.tru a) := by
  intro N sc e hc X W k cx tk gk σ H Z env F P R nb rx Q ok
  simp only [chkT, Bool.and_eq_true] at hc
  simp only [evT] at nb rx ok
  refine ⟨wT_of (pt_truth pe_w (plT_true hc.2)) ?_, fun ⟨_, _, _, h⟩ => by subst h; simp [plT] at hc⟩
  refine ha N sc e hc.1 X W k cx tk gk σ H Z env F P R (bind_nb nb) (rx.next (Nx.refl R) fun z env' h => bind_rx h) _ fun d env1 h1 v H1 Z1 F1 n1 q1 d1 => ?_
  rw [h1] at nb ok
  simp only [bind_ok] at nb ok
  obtain ⟨b, hb⟩ := ofO_nb nb
  exact ⟨b, truD_tru n1.rel.sub d1.1 hb, ok b env1 (ofO_ok hb) H1 Z1 F1 n1 q1⟩
theorem sd_cmpT {o : Cm} {a b : E} (ha : SdE G a) (hb : SdE G b) : SdT G (.cmp o a b) := by
  intro N sc e hc X W k cx tk gk σ H Z env F P R nb rx Q ok
  refine cmp1_shape (e := e) (fun x op y pos he => ?_) fun no => ?_
  · subst he
    simp only [chkT, Bool.and_eq_true, decide_eq_true_eq] at hc
    obtain ⟨⟨⟨⟨rfl, ca⟩, cb⟩, hs⟩, hm⟩ := hc
    simp only [evT] at nb rx ok
    refine ⟨wT_of (pt_cmpR (opCmpR o cx.hu) pe_w pe_w (plM_mark hm)) ?_, fun ⟨_, _, _, h⟩ => by cases h⟩
    refine two ha hb ca cb hs cx tk gk R nb rx fun d e env2 nb2 eq v u H2 Z2 F2 n q dv du => ?_
    obtain ⟨r, hr⟩ := ofO_nb nb2
    refine ⟨Z2, d, e, .bool r, n.rel.sub, dv, du.1, by simp [hr], fun v' hv => ?_, fun p u' hp hd => by cases hd⟩
    cases hv
    exact ⟨r, rfl, ok r env2 (eq.trans (ofO_ok hr)) H2 Z2 F2 n q⟩
  · exfalso
    unfold chkT at hc
    split at hc <;> first | contradiction | exact no _ _ _ _ rfl
theorem sd_chainT {o o' : Cm} {a b c : E} (ha : SdE G a) (hb : SdE G b) (hcc : SdE G c) : SdT G (.chain o o' a b c) := by
  intro N sc e hc X W k cx tk gk σ H Z env F P R nb rx Q ok
  refine chain_shape (e := e) (fun x op op' y z pos he => ?_) fun no => ?_
  · subst he
    simp only [chkT, Bool.and_eq_true, decide_eq_true_eq] at hc
    obtain ⟨⟨⟨⟨⟨⟨⟨⟨rfl, rfl⟩, ca⟩, cb⟩, ccc⟩, hs⟩, sb⟩, hm⟩, hm'⟩ := hc
    simp only [evT] at nb rx ok
    refine ⟨wT_of (pt_chain (opCmpR o cx.hu) (opCmpR o' cx.hu) pe_w pe_w pe_w (plM_mark hm')) ?_, fun ⟨_, _, _, h⟩ => by cases h⟩
    refine two ha hb ca cb hs cx tk gk R nb rx fun d e env2 nb2 eq v u H2 Z2 F2 n q dv du => ?_
    rw [eq] at ok rx
    cases hr : opCmp o d e with
    | none => rw [hr] at nb2; exact absurd rfl nb2
    | some kk =>
      rw [hr] at nb2 ok rx
      refine ⟨Z2, d, e, .bool kk, n.rel.sub, dv, du.1, by simp [hr], ?_, fun p u' hp hd => by cases hd⟩
      intro w hw
      cases hw
      refine ⟨kk, rfl, ?_⟩
      cases kk with
      | false =>
        simp only [Bool.false_eq_true, if_false]
        exact ⟨false, rfl, ok _ env2 rfl H2 Z2 F2 n fun z => q (by simp only [quiet, Bool.and_eq_true] at z ⊢; exact z.1)⟩
      | true =>
        simp only [if_true]
        simp only at nb2 ok rx
        refine hcc N sc z ccc X W k cx tk gk σ H2 Z2 env2 F2 P n.rel (bind_nb nb2) (rx.next n fun z env' h => bind_rx h) _ fun d3 env3 h3 w H3 Z3 F3 n3 q3 dw => ?_
        rw [h3] at nb2 ok
        simp only [bind_ok] at nb2 ok
        obtain ⟨r, hr'⟩ := ofO_nb nb2
        have du' : Dq X.K Z3 H3 u e := .inl (dp_same n3.stp.zz (du.2 sb))
        refine ⟨Z3, e, d3, .bool r, n3.rel.sub, du', dw.1, by simp [hr'], fun v' hv => ?_, fun p u' hp hd => by cases hd⟩
        cases hv
        refine ⟨r, rfl, ok r env3 (ofO_ok hr') H3 Z3 F3 (n.trans n3) fun z => ?_⟩
        simp only [quiet, Bool.and_eq_true] at z
        obtain ⟨a1, a2, a3⟩ := q (by rw [Bool.and_eq_true]; exact z.1)
        obtain ⟨b1, b2, b3⟩ := q3 z.2
        exact ⟨a1.trans b1, b2.trans a2, b3.trans a3⟩
  · exfalso
    unfold chkT at hc
    split at hc <;> first | contradiction | exact no _ _ _ _ _ _ rfl
end
end Mp

end
section
set_option Elab.async false
set_option linter.all false
set_option maxRecDepth 100000
set_option autoImplicit false
/-! MiniPy, part M: places are sound. -/
namespace Mp
open PySem PySem.Spec PyProof.Rows L2

section
variable {C : Ct} {σ : Sto} {H Z H' Z' : Hp} {env env' : Env} {F F' : Nat → FS} {P : List (Nat × V)} {r : Nat} {p : List Sg} {v : V}
theorem Place.read (h : Place C σ H Z env F r p v) : ∃ t1 U1, readP env r p = some t1 ∧ Own C true H Z v t1 U1 ∧ ∀ b, U1 b → F r b := by
  rcases h with ⟨w, t, t1, U1, h1, h2, h3, L, _⟩ | ⟨w, t, t1, U1, h1, h2, h3, L, _⟩
  · refine ⟨t1, U1, ?_, L.own.toRd, L.sub⟩
    unfold readP rootT
    unfold ownT at h1
    cases q : env[r]? with
    | none => rw [q] at h1; simp at h1
    | some s =>
      rw [q] at h1
      cases s <;> simp at h1
      subst h1
      simp [h3]
  · refine ⟨t1, U1, ?_, L.own, L.sub⟩
    unfold readP rootT
    rw [h1]
    simp [h3]
theorem Place.root (R : Rel C σ H Z env F P) {t : T} (h : rootT env r = some t) : ∃ w, σ[r]? = some (some w) ∧ Place C σ H Z env F r [] w := by
  unfold rootT at h
  cases q : env[r]? with
  | none => rw [q] at h; simp at h
  | some s =>
    rw [q] at h
    obtain ⟨x, e1, so⟩ := R.slot r s q
    cases s with
    | own t' =>
      obtain ⟨w, rfl, o⟩ := so
      exact ⟨w, e1, .inl ⟨w, t', t', F r, by unfold ownT; rw [q], e1, rfl, Lens.nil o, fun _ => .nil w⟩⟩
    | ro t' =>
      obtain ⟨w, rfl, o⟩ := so
      exact ⟨w, e1, .inr ⟨w, t', t', F r, q, e1, rfl, Lens.nil o, fun _ => .nil w⟩⟩
    | no => simp at h
    | al _ _ => simp at h
/-- a place is there still, behind a further expression -/
theorem Place.late (h : Place C σ H Z env F r p v) (n : Nx C σ H Z env F P H' Z' env' F') (e : p = [] ∨ (Same H H' ∧ env' = env ∧ F' = F)) (rd : (readP env' r p).isSome) : Place C σ H' Z' env' F' r p v := by
  rcases e with e | ⟨e1, e2, e3⟩
  · subst e
    have hv : σ[r]? = some (some v) := by
      rcases h with ⟨w, t, t1, U1, h1, h2, h3, L, pa⟩ | ⟨w, t, t1, U1, h1, h2, h3, L, pa⟩
      · have q := pa rfl
        cases q
        exact h2
      · have q := pa rfl
        cases q
        exact h2
    unfold readP at rd
    cases q : rootT env' r with
    | none => rw [q] at rd; simp at rd
    | some t =>
      obtain ⟨w, w1, w2⟩ := Place.root n.rel q
      rw [hv] at w1
      have ew : v = w := Option.some.inj (Option.some.inj w1)
      subst ew
      exact w2
  · subst e2; subst e3
    rcases h with ⟨w, t, t1, U1, h1, h2, h3, L, pa⟩ | ⟨w, t, t1, U1, h1, h2, h3, L, pa⟩
    · exact .inl ⟨w, t, t1, U1, h1, h2, h3, L.same e1 n.stp.zz, fun z => (pa z).same e1⟩
    · exact .inr ⟨w, t, t1, U1, h1, h2, h3, L.same e1 n.stp.zz, fun z => (pa z).same e1⟩
theorem noNk_snoc {p : List Sg} {s : Sg} : noNk (p ++ [s]) = true ↔ noNk p = true ∧ noNk [s] = true := by
  induction p with
  | nil => simp [noNk]
  | cons a p ih => cases a <;> simp [noNk, ih] <;> simpa [noNk] using ih
/-- a further step -/
theorem Place.snoc {s : Sg} {t1 t2 : T} (h : Place C σ H Z env F r p v) (e : readP env r p = some t1) (hs : getS t1 s = some t2) : ∃ v2, Place C σ H Z env F r (p ++ [s]) v2 ∧ (noNk [s] = true → PathAt H v [s] v2) := by
  rcases h with ⟨w, t, t1', U1, h1, h2, h3, L, pa⟩ | ⟨w, t, t1', U1, h1, h2, h3, L, pa⟩
  · have et : t1' = t1 := by
      unfold readP rootT at e
      unfold ownT at h1
      cases q : env[r]? with
      | none => rw [q] at h1; simp at h1
      | some s0 =>
        rw [q] at h1 e
        cases s0 <;> simp at h1
        subst h1
        simp only [Option.bind_some] at e
        rw [h3] at e
        exact Option.some.inj e
    subst et
    obtain ⟨v2, U2, L2, pa2⟩ := L.own.one hs
    refine ⟨v2, .inl ⟨w, t, t2, U2, h1, h2, getP_snoc h3 hs, L.snoc h3 hs L2, fun z => ?_⟩, pa2⟩
    obtain ⟨z1, z2⟩ := noNk_snoc.mp z
    exact (pa z1).snoc (pa2 z2)
  · have et : t1' = t1 := by
      unfold readP rootT at e
      rw [h1] at e
      simp only [Option.bind_some] at e
      rw [h3] at e
      exact Option.some.inj e
    subst et
    obtain ⟨v2, U2, L2, pa2⟩ := L.own.one hs
    refine ⟨v2, .inr ⟨w, t, t2, U2, h1, h2, getP_snoc h3 hs, L.snoc h3 hs L2, fun z => ?_⟩, pa2⟩
    obtain ⟨z1, z2⟩ := noNk_snoc.mp z
    exact (pa z1).snoc (pa2 z2)
/-- a place that may be changed -/
theorem Place.owned {t1 : T} (R : Rel C σ H Z env F P) (h : Place C σ H Z env F r p v) (e : ownP env r p = some t1) : ∃ w t U1, ownT env r = some t ∧ σ[r]? = some (some w) ∧ Lens C false H Z w t (F r) p v t1 U1 := by
  rcases h with ⟨w, t, t1', U1, h1, h2, h3, L, pa⟩ | ⟨w, t, t1', U1, h1, h2, h3, L, pa⟩
  · unfold ownP at e
    rw [h1] at e
    simp only [Option.bind_some] at e
    rw [h3] at e
    have et := Option.some.inj e
    subst et
    exact ⟨w, t, U1, h1, h2, L⟩
  · unfold ownP ownT at e
    rw [h1] at e
    simp at e
end
theorem lookup_lookA {α : Type} : ∀ (l : List (Str × α)) (k : Str), l.lookup k = lookA l k
  | [], _ => rfl
  | (a, v) :: r, k => by
    rw [List.lookup_cons]
    simp only [lookA]
    by_cases h : a = k
    · subst h
      simp
    · have h' : (k == a) = false := by simp [Ne.symm h]
      rw [if_neg h]
      simp only [h']
      exact lookup_lookA r k

section
variable {G : Gl}
theorem sd_lvar (i : Nat) : SdL G (.lvar i) := by
  intro N sc e hc X W k cx tk gk σ H Z env F P R nb rx Q ok
  cases e with
  | Name x pos =>
    simp only [chkL] at hc
    refine wE_of (nameB_pe cx hc) ?_
    simp only [evL] at nb ok
    cases q : env[i]? with
    | none => rw [q] at nb; exact absurd rfl nb
    | some s =>
      rw [q] at nb ok
      have q0 : quiet (.lvar i) = true → Same H H ∧ env = env ∧ F = F := fun _ => ⟨Same.refl H, rfl, rfl⟩
      cases s with
      | no => exact absurd rfl nb
      | own t =>
        obtain ⟨w, w1, w2⟩ := Place.root (r := i) R (show rootT env i = some t by unfold rootT; rw [q])
        exact ⟨w, w1, ok (i, []) env rfl w H Z F (Nx.refl R) q0 w2⟩
      | ro t =>
        obtain ⟨w, w1, w2⟩ := Place.root (r := i) R (show rootT env i = some t by unfold rootT; rw [q])
        exact ⟨w, w1, ok (i, []) env rfl w H Z F (Nx.refl R) q0 w2⟩
      | al r p =>
        obtain ⟨v, w, a1, a2, a3, a4, a5⟩ := R.al i r p q
        refine ⟨v, a1, ok (r, p) env rfl v H Z F (Nx.refl R) q0 ?_⟩
        unfold readP at a4
        cases q2 : rootT env r with
        | none => rw [q2] at a4; simp at a4
        | some t =>
          rw [q2] at a4
          obtain ⟨t1, ht1⟩ := Option.isSome_iff_exists.mp a4
          obtain ⟨w', b1, pl⟩ := Place.root R q2
          rw [a2] at b1
          have ew : w = w' := Option.some.inj (Option.some.inj b1)
          subst ew
          unfold rootT at q2
          cases q3 : env[r]? with
          | none => rw [q3] at q2; simp at q2
          | some s3 =>
            rw [q3] at q2
            obtain ⟨x3, e3, so⟩ := R.slot r s3 q3
            rw [a2] at e3
            have e4 := Option.some.inj e3
            subst e4
            cases s3 with
            | own t3 =>
              simp at q2
              subst q2
              obtain ⟨w3, e5, o⟩ := so
              have e6 := Option.some.inj e5
              subst e6
              obtain ⟨v1, U1, L, pa⟩ := o.sub ht1
              have ev := a3.det (pa a5)
              subst ev
              exact .inl ⟨_, t3, t1, U1, by unfold ownT; rw [q3], a2, ht1, L, pa⟩
            | ro t3 =>
              simp at q2
              subst q2
              obtain ⟨w3, e5, o⟩ := so
              have e6 := Option.some.inj e5
              subst e6
              obtain ⟨v1, U1, L, pa⟩ := o.sub ht1
              have ev := a3.det (pa a5)
              subst ev
              exact .inr ⟨_, t3, t1, U1, q3, a2, ht1, L, pa⟩
            | no => simp at q2
            | al _ _ => simp at q2
  | _ => simp [chkL] at hc
theorem sd_lfld {l : E} {f : Str} (hl : SdL G l) : SdL G (.lfld l f) := by
  intro N sc e hc X W k cx tk gk σ H Z env F P R nb rx Q ok
  cases e with
  | Attribute x g pos =>
    simp only [chkL, Bool.and_eq_true, decide_eq_true_eq] at hc
    obtain ⟨⟨rfl, cl⟩, pb⟩ := hc
    simp only [evL] at nb rx ok
    refine wE_of (pe_fld pe_w (plB_base pb)) ?_
    refine hl N sc x cl X W k cx tk gk σ H Z env F P R (bind_nb nb) (rx.next (Nx.refl R) fun z env' h => bind_rx h) _ fun q env1 h1 v H1 Z1 F1 n1 q1 pl => ?_
    rw [h1] at nb ok
    simp only [bind_ok] at nb ok
    obtain ⟨t1, U1, rd, o, sub⟩ := pl.read
    rw [rd] at nb ok
    cases t1 with
    | ins c fs =>
      simp only at nb ok
      split at nb
      · rename_i hz
        rw [if_pos hz] at ok
        rw [Bool.and_eq_true] at hz
        obtain ⟨t2, ht2⟩ := Option.isSome_iff_exists.mp hz.1
        obtain ⟨v2, pl2, pa2⟩ := pl.snoc (s := .fld f) (t2 := t2) rd (by simp [getS, ht2])
        have pa := pa2 rfl
        cases pa with
        | fld a1 a2 a3 =>
          cases a3
          cases o with
          | ins hm h1' _ _ _ _ _ _ =>
            rw [a1] at h1'
            have e1 := Option.some.inj h1'
            injection e1 with eA eD eF
            subst eA; subst eD; subst eF
            obtain ⟨k1, k2⟩ := gk.fld c f _ hz.2 hm
            exact ⟨_, _, _, _, v2, rfl, a1, k1, k2, by rw [lookup_lookA]; exact a2, ok _ env1 rfl v2 H1 Z1 F1 n1 q1 pl2⟩
      · exact absurd rfl nb
    | _ => exact absurd rfl nb
  | _ => simp [chkL] at hc
theorem late_or {q : Nat × List Sg} {e : E} (h : ¬ late q e = false) : q.2 = [] ∨ quiet e = true := by
  unfold late at h
  cases hq : q.2 with
  | nil => exact .inl rfl
  | cons a b => rw [hq] at h; simp at h; exact .inr h
theorem sd_lix {l a : E} (hl : SdL G l) (ha : SdE G a) : SdL G (.lix l a) := by
  intro N sc e hc X W k cx tk gk σ H Z env F P R nb rx Q ok
  cases e with
  | Subscript x y pos =>
    simp only [chkL, Bool.and_eq_true] at hc
    obtain ⟨⟨⟨cl, ca⟩, sa⟩, hi⟩ := hc
    simp only [evL] at nb rx ok
    refine wE_of (pe_ix ix_list pe_w pe_w (plI_ix hi)) ?_
    refine hl N sc x cl X W k cx tk gk σ H Z env F P R (bind_nb nb) (rx.next (Nx.refl R) fun z env' h => bind_rx h) _ fun q env1 h1 v H1 Z1 F1 n1 q1 pl => ?_
    rw [h1] at nb ok rx
    simp only [bind_ok] at nb ok rx
    by_cases hlt : late q a = false
    · rw [if_pos hlt] at nb; exact absurd rfl nb
    rw [if_neg hlt] at nb ok rx
    refine ha N sc y ca X W k cx tk gk σ H1 Z1 env1 F1 P n1.rel (bind_nb nb) (rx.next n1 fun z env' h => bind_rx h) _ fun d env2 h2 u H2 Z2 F2 n2 q2 d2 => ?_
    rw [h2] at nb ok
    simp only [bind_ok] at nb ok
    cases rd : readP env2 q.1 q.2 with
    | none => rw [rd] at nb; exact absurd rfl nb
    | some t1 =>
      rw [rd] at nb ok
      have pl2 := pl.late n2 ((late_or hlt).imp id q2) (by rw [rd]; rfl)
      cases t1 with
      | ls ts =>
        cases d with
        | int i =>
          simp only [intD] at nb ok
          cases hj : ixN ts.length i with
          | none => rw [hj] at nb; exact absurd rfl nb
          | some j =>
            rw [hj] at ok
            have hlt2 := (ixN_seq hj).2.1
            obtain ⟨v2, pl3, pa2⟩ := pl2.snoc (s := .ix j) (t2 := ts[j]) rd (by simp [getS, hlt2])
            have pa := pa2 rfl
            obtain ⟨t1', U1, rd', o, _⟩ := pl2.read
            rw [rd] at rd'
            have et := Option.some.inj rd'
            subst et
            cases o with
            | ls o1 o2 _ _ =>
              cases pa with
              | ix a1 a2 a3 =>
                cases a3
                have e1 := rd_det a1 o1.rd (fun _ _ z => nomatch z) (fun _ _ z => nomatch z)
                injection e1 with e1
                subst e1
                have ei := d2.1.int
                subst ei
                refine ⟨_, _, i, v2, rfl, rfl, .inl a1, ?_, ok _ env2 rfl v2 H2 Z2 F2 (n1.trans n2) (fun z => ?_) pl3⟩
                · unfold atI
                  rw [o2.len, hj]
                  exact a2
                · simp only [quiet, Bool.and_eq_true] at z
                  obtain ⟨a1, a2, a3⟩ := q1 z.1
                  obtain ⟨b1, b2, b3⟩ := q2 z.2
                  exact ⟨a1.trans b1, b2.trans a2, b3.trans a3⟩
        | _ => exact absurd rfl nb
      | _ => exact absurd rfl nb
  | _ => simp [chkL] at hc
theorem noSl_of {y : Expr} (h : plI y = true) : NoSl y := plI_ix h
theorem keyOf_kV {K : PySem.W.Frag} {Z H : Hp} {v : V} {d : PyData} {k : Key} (h : Dq K Z H v d) (e : keyOf d = some k) : v = kV k := by
  cases d with
  | int i =>
    have ev := h.int
    simp only [keyOf, Option.some.injEq] at e
    subst ev; subst e
    rfl
  | str i =>
    have ev := h.str
    simp only [keyOf, Option.some.injEq] at e
    subst ev; subst e
    rfl
  | _ => simp [keyOf] at e
theorem sd_lkey {l a : E} (hl : SdL G l) (ha : SdE G a) : SdL G (.lkey l a) := by
  intro N sc e hc X W k cx tk gk σ H Z env F P R nb rx Q ok
  cases e with
  | Subscript x y pos =>
    simp only [chkL, Bool.and_eq_true] at hc
    obtain ⟨⟨⟨cl, ca⟩, sa⟩, hi⟩ := hc
    simp only [evL] at nb rx ok
    refine wE_of (pe_dget (hu_of cx.room) pe_w pe_w (noSl_of hi)) ?_
    refine hl N sc x cl X W k cx tk gk σ H Z env F P R (bind_nb nb) (rx.next (Nx.refl R) fun z env' h => bind_rx h) _ fun q env1 h1 v H1 Z1 F1 n1 q1 pl => ?_
    rw [h1] at nb ok rx
    simp only [bind_ok] at nb ok rx
    by_cases hlt : late q a = false
    · rw [if_pos hlt] at nb; exact absurd rfl nb
    rw [if_neg hlt] at nb ok rx
    refine ha N sc y ca X W k cx tk gk σ H1 Z1 env1 F1 P n1.rel (bind_nb nb) (rx.next n1 fun z env' h => bind_rx h) _ fun d env2 h2 u H2 Z2 F2 n2 q2 d2 => ?_
    rw [h2] at nb ok
    simp only [bind_ok] at nb ok
    cases rd : readP env2 q.1 q.2 with
    | none => rw [rd] at nb; exact absurd rfl nb
    | some t1 =>
      rw [rd] at nb ok
      have pl2 := pl.late n2 ((late_or hlt).imp id q2) (by rw [rd]; rfl)
      cases t1 with
      | dk kvs =>
        cases hk : keyOf d with
        | none => rw [hk] at nb; exact absurd rfl nb
        | some key =>
          rw [hk] at nb ok
          simp only at nb ok
          split at nb
          · rename_i hz
            rw [if_pos hz] at ok
            obtain ⟨t2, ht2⟩ := Option.isSome_iff_exists.mp hz
            obtain ⟨v2, pl3, pa2⟩ := pl2.snoc (s := .key key) (t2 := t2) rd (by simp [getS, ht2])
            have pa := pa2 rfl
            cases pa with
            | key a1 a2 a3 =>
              cases a3
              have ei := keyOf_kV d2.1 hk
              subst ei
              refine ⟨_, v2, rfl, .inl ⟨_, key, a1, rfl, by rw [← lookA_val]; exact a2.symm⟩, ok _ env2 rfl v2 H2 Z2 F2 (n1.trans n2) (fun z => ?_) pl3⟩
              simp only [quiet, Bool.and_eq_true] at z
              obtain ⟨a1, a2, a3⟩ := q1 z.1
              obtain ⟨b1, b2, b3⟩ := q2 z.2
              exact ⟨a1.trans b1, b2.trans a2, b3.trans a3⟩
          · exact absurd rfl nb
      | _ => cases hk : keyOf d <;> (rw [hk] at nb; exact absurd rfl nb)
  | _ => simp [chkL] at hc

/-! ### reading at a place -/
theorem sd_rd {l : E} (hl : SdL G l) : SdE G (.rd l) := by
  intro N sc e hc X W k cx tk gk σ H Z env F P R nb rx Q ok
  have hc' : chkL N sc l e = true := hc
  simp only [evE] at nb rx ok
  refine hl N sc e hc' X W k cx tk gk σ H Z env F P R (bind_nb nb) (rx.next (Nx.refl R) fun z env' h => bind_rx h) _ fun q env1 h1 v H1 Z1 F1 n1 q1 pl => ?_
  rw [h1] at nb ok
  simp only [bind_ok] at nb ok
  obtain ⟨t1, U1, rd, o, sub⟩ := pl.read
  rw [rd] at nb ok
  cases t1 with
  | fz d =>
    cases o with
    | fz o1 o2 => exact ok d env1 rfl v H1 Z1 F1 n1 q1 ⟨.inl o1, fun _ => o1⟩
  | _ => exact absurd rfl nb
theorem ownL_fzs {C : Ct} {rd : Bool} {H Z : Hp} : ∀ {vs : List V} {ts : List T} {U : FS} {ds : List PyData}, OwnL C rd H Z vs ts U → ts = ds.map T.fz → DzAll C.K Z vs ds
  | _, _, _, [], .nil _, _ => .nil
  | _, _, _, _ :: _, .nil _, e => by simp at e
  | _, _, _, [], .cons .., e => by simp at e
  | _, _, _, d :: ds, .cons (t := t) h1 h2 _ _, e => by
    simp only [List.map_cons, List.cons.injEq] at e
    obtain ⟨rfl, e⟩ := e
    cases h1 with
    | fz h _ => exact .cons h (ownL_fzs h2 e)
theorem sd_pk {l : E} (hl : SdL G l) : SdE G (.pk l) := by
  intro N sc e hc X W k cx tk gk σ H Z env F P R nb rx Q ok
  have hc' : chkL N sc l e = true := hc
  simp only [evE] at nb rx ok
  refine hl N sc e hc' X W k cx tk gk σ H Z env F P R (bind_nb nb) (rx.next (Nx.refl R) fun z env' h => bind_rx h) _ fun q env1 h1 v H1 Z1 F1 n1 q1 pl => ?_
  rw [h1] at nb ok
  simp only [bind_ok] at nb ok
  obtain ⟨t1, U1, rd, o, sub⟩ := pl.read
  rw [rd] at nb ok
  obtain ⟨d, hd⟩ := ofO_nb nb
  refine ok d env1 (ofO_ok hd) v H1 Z1 F1 n1 q1 ⟨?_, fun z => by simp [stab] at z⟩
  cases t1 with
  | fz d' =>
    simp only [peekD, Option.some.injEq] at hd
    subst hd
    cases o with
    | fz o1 o2 => exact .inl o1
  | ls ts =>
    simp only [peekD, Option.map_eq_some_iff] at hd
    obtain ⟨ds, e1, rfl⟩ := hd
    cases o with
    | ls o1 o2 _ _ => exact .inr ⟨_, _, ds, rfl, rfl, o1.rd, ownL_fzs o2 (flatT_eq e1)⟩
  | _ => simp [peekD] at hd
/-- a name's tree is frozen -/
theorem Rel.fzSlot {C : Ct} {σ : Sto} {H Z : Hp} {env : Env} {F : Nat → FS} {P : List (Nat × V)} (R : Rel C σ H Z env F P) {i : Nat} {t : T} {d : PyData} (ht : ownT env i = some t) (hd : t.data = some d) :
    ∃ v Z' F', σ[i]? = some (some v) ∧ Dz C.K Z' v d ∧ Nx C σ H Z env F P H Z' (setV env i (.own (.fz d))) F' := by
  classical
  obtain ⟨v, hv, o, io⟩ := R.rootOwn ht
  -- without the name's own objects
  have hi : i < env.length := by
    obtain ⟨t', e⟩ := io
    exact (List.getElem?_eq_some_iff.mp e).1
  have R0 : Rel C σ H Z (setV env i .no) (upF F i fun _ => False) [] := by
    have := (Rel.setSlot (P := []) ⟨R.len, R.slot, R.out, R.dj, R.az, R.sub, R.al, fun q hq => by cases hq⟩ (i := i) (v := v) (s := .no) (U := fun _ => False) hi (fun _ x => x) (fun _ _ _ x => x.elim) (fun _ z => by cases z) (fun _ _ z => by cases z) (fun q hq => by cases hq))
    rw [set_same hv] at this
    exact this
  have live : ∀ b, F i b → ∃ o, H b = some o := fun b x => R.live x
  have ap : Apt (upF F i fun _ => False) (F i) := fun j b x y => by
    by_cases h : j = i
    · subst h; simp [upF] at y
    · simp only [upF, if_neg h] at y
      exact R.dj i j b (Ne.symm h) io x y
  obtain ⟨Z', R1, zz, zf, zo⟩ := R0.frz live ap
  have dz : Dz C.K Z' v d := o.freeze hd zz zf
  have R2 := R1.setSlot (i := i) (v := v) (s := .own (.fz d)) (U := fun _ => False) (by simp [setV, hi]) ⟨v, rfl, .fz dz fun _ x => x⟩ (fun _ _ _ x => x.elim) (fun _ _ b x => x.elim) (fun _ _ z => by cases z) (fun q hq => by cases hq)
  rw [set_same hv] at R2
  have e1 : setV (setV env i .no) i (.own (.fz d)) = setV env i (.own (.fz d)) := by
    apply List.ext_getElem?
    intro j
    rw [setV_get, setV_get, setV_get]
    by_cases h : j = i
    · simp [h, setV]
    · rw [if_neg h, if_neg h, if_neg h]
      cases env[j]? with
      | none => rfl
      | some s =>
        cases s with
        | al r p =>
          simp only [Option.map_some, dropAl]
          by_cases q : r = i <;> simp [q, dropAl]
        | _ => rfl
  rw [e1] at R2
  refine ⟨v, Z', _, hv, dz, ⟨⟨R2.len, R2.slot, R2.out, R2.dj, R2.az, R2.sub, R2.al, R.pr⟩, ?_, fun j b x => ?_, fun j t0 => ?_⟩⟩
  rotate_left
  · by_cases h : j = i
    · subst h; simp [upF] at x
    · simp only [upF, if_neg h] at x
      exact .inl ⟨j, x⟩
  · by_cases h : j = i
    · subst h
      obtain ⟨t1, e1⟩ := io
      rw [setV_get, if_pos rfl, if_pos hi, e1]
      exact ⟨⟨fun q => (by cases q), fun q => (by cases q)⟩, fun q => (by cases q)⟩
    · rw [setV_get, if_neg h]
      refine ⟨?_, fun _ => by simp only [upF, if_neg h]⟩
      cases q : env[j]? with
      | none => simp
      | some s0 => simp only [Option.map_some, Option.some.injEq, dropAl_ro]
  refine ⟨zz, fun b o e _ => e, fun b x => ?_, fun b o x => ?_⟩
  · obtain ⟨j, ho, y⟩ := x
    by_cases h : j = i
    · subst h; simp [upF] at y
    · simp only [upF, if_neg h] at y
      exact .inl ⟨j, (isOwn_setV h).mp ho, y⟩
  · rcases zo b o x with y | y
    · exact .inl y
    · exact .inr (.inl ⟨i, io, y⟩)
theorem sd_fz (i : Nat) : SdE G (.fz i) := by
  intro N sc e hc X W k cx tk gk σ H Z env F P R nb rx Q ok
  cases e with
  | Name x pos =>
    simp only [chkE] at hc
    refine wE_of (nameB_pe cx hc) ?_
    simp only [evE] at nb ok
    cases ht : ownT env i with
    | none => rw [ht] at nb; exact absurd rfl nb
    | some t =>
      rw [ht] at nb ok
      cases hd : t.data with
      | none => simp only [hd] at nb; exact absurd rfl nb
      | some d =>
        simp only [hd] at ok
        obtain ⟨v, Z', F', hv, dz, n⟩ := R.fzSlot ht hd
        exact ⟨v, hv, ok d _ rfl v H Z' F' n (fun z => by simp [quiet] at z) ⟨.inl dz, fun _ => dz⟩⟩
  | _ => simp [chkE] at hc
end
end Mp

end
section
set_option Elab.async false
set_option linter.all false
set_option maxRecDepth 100000
set_option autoImplicit false
/-! MiniPy, part N: lists that change in place. -/
namespace Mp
open PySem PySem.Spec PyProof.Rows L2

section
variable {C : Ct} {σ : Sto} {H Z H' Z' : Hp} {env env' : Env} {F F' : Nat → FS} {P : List (Nat × V)} {r : Nat} {p : List Sg} {v : V}
/-- a list at a place gets other items -/
theorem Rel.putLsX (R : Rel C σ H Z env F P) {ts : List T} (pl : Place C σ H Z env F r p v) (e : ownP env r p = some (.ls ts)) : ∃ a vs S, v = .ref a ∧ H a = some (.lst vs) ∧ vs.length = ts.length ∧ OwnL C false H Z vs ts S ∧ (∀ b, S b → F r b) ∧
    ∀ (vs' : List V) (ts' : List T) (S' W : FS), OwnL C false H Z vs' ts' S' → (∀ b, S' b → S b ∨ W b) → Apt F W → (∀ b, W b → (∃ o, H b = some o) ∧ Z b = none) →
      ∃ env' F', writeP env r p (.ls ts') = some env' ∧ Rel C σ (upd H a (.lst vs')) Z env' F' P ∧ Stp H Z (fun b => Af env F b ∨ W b) (upd H a (.lst vs')) Z (Af env' F') ∧ (∀ j b, F' j b → (∃ i, F i b) ∨ W b ∨ H b = none) ∧ ∀ (j : Nat) t0, (env[j]? = some (Sl.ro t0) ↔ env'[j]? = some (Sl.ro t0)) ∧ (env[j]? = some (Sl.ro t0) → F' j = F j) := by
  obtain ⟨w, t, U1, h1, h2, L⟩ := pl.owned R e
  have io := (R.rootOwn h1).choose_spec.2.2
  have own := L.own
  cases own with
  | @ls a vs _ S _ o1 o2 o3 o4 =>
    have ha : U1 a := (o4 a).mpr (.inl rfl)
    have fa : F r a := L.sub a ha
    refine ⟨a, vs, S, rfl, o1.wr, o2.len, o2, fun b x => L.sub b ((o4 b).mpr (.inr x)), fun vs' ts' S' W q sub aw lw => ?_⟩
    have na : ¬ S' a := fun x => by
      rcases sub a x with y | y
      · exact o3 y
      · exact aw r a y fa
    have q2 : OwnL C false (upd H a (.lst vs')) Z vs' ts' S' := q.keep (Same.refl Z) fun b x o hb => by
      rw [upd_ne (fun z => na (by rw [← z]; exact x))]
      exact hb
    have zf : ∀ b, (b = a ∨ S' b) → Z b = none := fun b x => by
      rcases x with x | x
      · subst x; exact R.az r _ io fa
      · rcases sub b x with y | y
        · exact R.az r b io (L.sub b ((o4 b).mpr (.inr y)))
        · exact (lw b y).2
    have st : Stp H Z (fun b => U1 b ∨ W b) (upd H a (.lst vs')) Z (fun b => b = a ∨ S' b) := Stp.wr (p := a) (.inl ha) fun b x => by
      rcases x with x | x
      · subst x; exact .inl ha
      · rcases sub b x with y | y
        · exact .inl ((o4 b).mpr (.inr y))
        · exact .inr y
    have zs : Same Z (upd H a (.lst vs')) := fun b o x => by
      rw [upd_ne (fun z => by subst z; rw [zf _ (.inl rfl)] at x; cases x)]
      exact R.sub b o x
    exact R.write h1 h2 L st (.ls (.inl upd_same) q2 na fun b => Iff.rfl) aw zf zs
theorem Rel.putLs (R : Rel C σ H Z env F P) {ts : List T} (pl : Place C σ H Z env F r p v) (e : ownP env r p = some (.ls ts)) : ∃ a vs S, v = .ref a ∧ H a = some (.lst vs) ∧ vs.length = ts.length ∧ OwnL C false H Z vs ts S ∧
    ∀ (vs' : List V) (ts' : List T) (S' W : FS), OwnL C false H Z vs' ts' S' → (∀ b, S' b → S b ∨ W b) → Apt F W → (∀ b, W b → (∃ o, H b = some o) ∧ Z b = none) →
      ∃ env' F', writeP env r p (.ls ts') = some env' ∧ Rel C σ (upd H a (.lst vs')) Z env' F' P ∧ Stp H Z (fun b => Af env F b ∨ W b) (upd H a (.lst vs')) Z (Af env' F') ∧ (∀ j b, F' j b → (∃ i, F i b) ∨ W b ∨ H b = none) ∧ ∀ (j : Nat) t0, (env[j]? = some (Sl.ro t0) ↔ env'[j]? = some (Sl.ro t0)) ∧ (env[j]? = some (Sl.ro t0) → F' j = F j) := by
  obtain ⟨a, vs, S, h1, h2, h3, h4, _, h5⟩ := R.putLsX pl e
  exact ⟨a, vs, S, h1, h2, h3, h4, h5⟩
theorem Place.path (h : Place C σ H Z env F r p v) (nn : noNk p = true) : ∃ w t1, σ[r]? = some (some w) ∧ PathAt H w p v ∧ readP env r p = some t1 := by
  obtain ⟨t2, U2, rd, _, _⟩ := h.read
  rcases h with ⟨w, t, t1, U1, h1, h2, h3, h4, h5⟩ | ⟨w, t, t1, U1, h1, h2, h3, h4, h5⟩
  · exact ⟨w, t2, h2, h5 nn, rd⟩
  · exact ⟨w, t2, h2, h5 nn, rd⟩
end
theorem nx_of {C : Ct} {σ : Sto} {H Z H' Z' : Hp} {env env' : Env} {F F' : Nat → FS} {P : List (Nat × V)} (R : Rel C σ H' Z' env' F' P) (s : Stp H Z (fun b => Af env F b ∨ False) H' Z' (Af env' F') ∧ (∀ j b, F' j b → (∃ i, F i b) ∨ False ∨ H b = none) ∧ ∀ (j : Nat) t0, (env[j]? = some (Sl.ro t0) ↔ env'[j]? = some (Sl.ro t0)) ∧ (env[j]? = some (Sl.ro t0) → F' j = F j)) : Nx C σ H Z env F P H' Z' env' F' :=
  ⟨R, s.1.mono (fun b x => x.elim id False.elim) fun b x => .inl x, fun j b x => (s.2.1 j b x).imp id fun y => y.elim False.elim id, s.2.2⟩
theorem few1 {y : Expr} {env : PySem.Env} {cpos : Pos} (h : plS y = true) : ((backTo cpos (starEach [y] env)).all (fun x => !x.1) && (backToKw cpos (keywordEach [] env)).all (fun x => x.1.isSome)
      && decide (([y] : List Expr).length + ([] : List Keyword).length + (if ([] : List Keyword).isEmpty then 0 else 1) < 30)) = true := by
  rw [plS_star h]
  rfl
theorem late_and {q : Nat × List Sg} {e : E} {env1 : Env} (h : ¬ (late q e && isLs env1 q) = false) : (q.2 = [] ∨ quiet e = true) ∧ ∃ ts, readP env1 q.1 q.2 = some (.ls ts) := by
  rw [Bool.not_eq_false, Bool.and_eq_true] at h
  refine ⟨late_or (by rw [h.1]; simp), ?_⟩
  have h2 := h.2
  unfold isLs at h2
  split at h2
  · rename_i ts e
    exact ⟨ts, e⟩
  · cases h2
theorem Place.tyL {C : Ct} {σ : Sto} {H Z : Hp} {env : Env} {F : Nat → FS} {r : Nat} {p : List Sg} {v : V} {ts : List T} (h : Place C σ H Z env F r p v) (e : readP env r p = some (.ls ts)) : tyV C.K "list" v H := by
  obtain ⟨t1, U1, rd, o, _⟩ := h.read
  rw [e] at rd
  have et := Option.some.inj rd
  subst et
  cases o with
  | ls o1 _ _ _ => exact .inl ⟨rfl, _, .inl o1.rd⟩
theorem readP_own {env : Env} {r : Nat} {p : List Sg} {t : T} (h : ownP env r p = some t) : readP env r p = some t := by
  unfold ownP ownT at h
  unfold readP rootT
  cases q : env[r]? with
  | none => rw [q] at h; simp at h
  | some s => rw [q] at h; cases s <;> simp at h ⊢; exact h
section
variable {G : Gl}
theorem mth1_shape {e : Expr} {P : Prop} (f : ∀ x name apos y pos, e = .Call (.Attribute x name apos) [y] [] pos → P) (n : (∀ x name apos y pos, e ≠ .Call (.Attribute x name apos) [y] [] pos) → P) : P :=
  mth_shape (e := e) (fun x name apos ys pos he => by
    subst he
    match ys with
    | [y] => exact f _ _ _ _ _ rfl
    | [] => exact n fun _ _ _ _ _ h => by cases h
    | _ :: _ :: _ => exact n fun _ _ _ _ _ h => by cases h) fun no => n fun x name apos y pos h => no _ _ _ _ _ h
theorem mth0_shape {e : Expr} {P : Prop} (f : ∀ x name apos pos, e = .Call (.Attribute x name apos) [] [] pos → P) (n : (∀ x name apos pos, e ≠ .Call (.Attribute x name apos) [] [] pos) → P) : P :=
  mth_shape (e := e) (fun x name apos ys pos he => by
    subst he
    match ys with
    | [] => exact f _ _ _ _ rfl
    | _ :: _ => exact n fun _ _ _ _ h => by cases h) fun no => n fun x name apos pos h => no _ _ _ _ _ h
theorem sd_app {l a : E} (hl : SdL G l) (ha : SdE G a) : SdE G (.app l a) := by
  intro N sc e hc X W k cx tk gk σ H Z env F P R nb rx Q ok
  refine mth1_shape (e := e) (fun x name apos y pos he => ?_) fun no => ?_
  · subst he
    simp only [chkE, Bool.and_eq_true, decide_eq_true_eq] at hc
    obtain ⟨⟨⟨⟨⟨⟨rfl, cl⟩, ca⟩, sa⟩, pb⟩, ps⟩, hln⟩ := hc
    simp only [evE] at nb rx ok
    refine wE_of (pe_bm PySem.F.plainAttrs_list PySem.F.slot_list_append PySem.F.type_list_append mt_append pe_w (pa_cons pe_w pa_nil (plS_star ps)) (plB_base pb) (few1 ps) (line_eq hln) (plS_star ps) rfl) ?_
    refine hl N sc x cl X W k cx tk gk σ H Z env F P R (bind_nb nb) (rx.next (Nx.refl R) fun z env' h => bind_rx h) _ fun q env1 h1 v H1 Z1 F1 n1 q1 pl => ?_
    rw [h1] at nb ok rx
    simp only [bind_ok] at nb ok rx
    by_cases hlt : (late q a && isLs env1 q) = false
    · rw [if_pos hlt] at nb; exact absurd rfl nb
    rw [if_neg hlt] at nb ok rx
    obtain ⟨hlate, ts0, hls⟩ := late_and hlt
    refine ⟨pl.tyL hls, ?_⟩
    refine ha N sc y ca X W k cx tk gk σ H1 Z1 env1 F1 P n1.rel (bind_nb nb) (rx.next n1 fun z env' h => bind_rx h) _ fun d env2 h2 u H2 Z2 F2 n2 q2 d2 => ?_
    rw [h2] at nb ok
    simp only [bind_ok] at nb ok
    cases hp : ownP env2 q.1 q.2 with
    | none => rw [hp] at nb; exact absurd rfl nb
    | some t1 =>
      rw [hp] at nb ok
      cases t1 with
      | ls ts =>
        simp only at nb ok
        split at nb
        · rename_i hz
          rw [if_pos hz] at ok
          have pl2 := pl.late n2 (hlate.imp id q2) (by rw [readP_own hp]; rfl)
          obtain ⟨b, vs, S, rfl, hb, lnn, ow, put⟩ := n2.rel.putLs pl2 hp
          have dz := d2.2 sa
          have ow' := ow.app (OwnL.one (U := fun _ => False) (.fz dz fun _ x => x)) (W := S) (fun _ _ x => x) fun b => by simp
          obtain ⟨env', F', e1, R', st⟩ := put _ _ S (fun _ => False) ow' (fun b x => .inl x) (fun _ _ x => x.elim) (fun b x => x.elim)
          rw [e1] at ok
          refine ⟨b, vs, u, rfl, rfl, hb, by omega, ?_⟩
          exact ok .none env' rfl .non _ Z2 F' ((n1.trans n2).trans (nx_of R' st)) (fun z => by simp [quiet] at z) ⟨.inl .non, fun _ => .non⟩
        · exact absurd rfl nb
      | _ => exact absurd rfl nb
  · exfalso
    unfold chkE at hc
    split at hc <;> first | contradiction | exact no _ _ _ _ _ rfl
theorem sd_ext {l a : E} (hl : SdL G l) (ha : SdE G a) : SdE G (.ext l a) := by
  intro N sc e hc X W k cx tk gk σ H Z env F P R nb rx Q ok
  refine mth1_shape (e := e) (fun x name apos y pos he => ?_) fun no => ?_
  · subst he
    simp only [chkE, Bool.and_eq_true, decide_eq_true_eq] at hc
    obtain ⟨⟨⟨⟨⟨rfl, cl⟩, ca⟩, pb⟩, ps⟩, hln⟩ := hc
    simp only [evE] at nb rx ok
    refine wE_of (pe_bm PySem.F.plainAttrs_list PySem.F.slot_list_extend PySem.F.type_list_extend extR pe_w (pa_cons pe_w pa_nil (plS_star ps)) (plB_base pb) (few1 ps) (line_eq hln) (plS_star ps) rfl) ?_
    refine hl N sc x cl X W k cx tk gk σ H Z env F P R (bind_nb nb) (rx.next (Nx.refl R) fun z env' h => bind_rx h) _ fun q env1 h1 v H1 Z1 F1 n1 q1 pl => ?_
    rw [h1] at nb ok rx
    simp only [bind_ok] at nb ok rx
    by_cases hlt : (late q a && isLs env1 q) = false
    · rw [if_pos hlt] at nb; exact absurd rfl nb
    rw [if_neg hlt] at nb ok rx
    obtain ⟨hlate, ts0, hls⟩ := late_and hlt
    refine ⟨pl.tyL hls, ?_⟩
    refine ha N sc y ca X W k cx tk gk σ H1 Z1 env1 F1 P n1.rel (bind_nb nb) (rx.next n1 fun z env' h => bind_rx h) _ fun d env2 h2 u H2 Z2 F2 n2 q2 d2 => ?_
    rw [h2] at nb ok
    simp only [bind_ok] at nb ok
    cases hp : ownP env2 q.1 q.2 with
    | none => rw [hp] at nb; exact absurd rfl nb
    | some t1 =>
      rw [hp] at nb ok
      cases t1 with
      | ls ts =>
        cases d with
        | list ds =>
          simp only at nb ok
          split at nb
          · rename_i hz
            rw [if_pos hz] at ok
            have pl2 := pl.late n2 (hlate.imp id q2) (by rw [readP_own hp]; rfl)
            obtain ⟨b, vs, S, rfl, hb, lnn, ow, put⟩ := n2.rel.putLs pl2 hp
            obtain ⟨c, ws, rfl, r1, z1⟩ := d2.1.list n2.rel.sub
            have ow' := ow.app (OwnL.fzs (U := fun _ => False) (fun _ x => x) z1) (W := S) (fun _ _ x => x) fun b => by simp
            obtain ⟨env', F', e1, R', st⟩ := put _ _ S (fun _ => False) ow' (fun b x => .inl x) (fun _ _ x => x.elim) (fun b x => x.elim)
            rw [e1] at ok
            refine ⟨b, c, vs, ws, rfl, rfl, hb, r1, by rw [lnn, dpAll_len z1]; exact hz, ?_⟩
            exact ok .none env' rfl .non _ Z2 F' ((n1.trans n2).trans (nx_of R' st)) (fun z => by simp [quiet] at z) ⟨.inl .non, fun _ => .non⟩
          · exact absurd rfl nb
        | _ => exact absurd rfl nb
      | _ => exact absurd rfl nb
  · exfalso
    unfold chkE at hc
    split at hc <;> first | contradiction | exact no _ _ _ _ _ rfl
theorem sd_popAt {l a : E} (hl : SdL G l) (ha : SdE G a) : SdE G (.popAt l a) := by
  intro N sc e hc X W k cx tk gk σ H Z env F P R nb rx Q ok
  refine mth1_shape (e := e) (fun x name apos y pos he => ?_) fun no => ?_
  · subst he
    simp only [chkE, Bool.and_eq_true, decide_eq_true_eq] at hc
    obtain ⟨⟨⟨⟨⟨rfl, cl⟩, ca⟩, pb⟩, ps⟩, hln⟩ := hc
    simp only [evE] at nb rx ok
    refine wE_of (pe_bm PySem.F.plainAttrs_list PySem.F.slot_list_pop PySem.F.type_list_pop mt_popAt pe_w (pa_cons pe_w pa_nil (plS_star ps)) (plB_base pb) (few1 ps) (line_eq hln) (plS_star ps) rfl) ?_
    refine hl N sc x cl X W k cx tk gk σ H Z env F P R (bind_nb nb) (rx.next (Nx.refl R) fun z env' h => bind_rx h) _ fun q env1 h1 v H1 Z1 F1 n1 q1 pl => ?_
    rw [h1] at nb ok rx
    simp only [bind_ok] at nb ok rx
    by_cases hlt : (late q a && isLs env1 q) = false
    · rw [if_pos hlt] at nb; exact absurd rfl nb
    rw [if_neg hlt] at nb ok rx
    obtain ⟨hlate, ts0, hls⟩ := late_and hlt
    refine ⟨pl.tyL hls, ?_⟩
    refine ha N sc y ca X W k cx tk gk σ H1 Z1 env1 F1 P n1.rel (bind_nb nb) (rx.next n1 fun z env' h => bind_rx h) _ fun d env2 h2 u H2 Z2 F2 n2 q2 d2 => ?_
    rw [h2] at nb ok
    simp only [bind_ok] at nb ok
    cases hp : ownP env2 q.1 q.2 with
    | none => rw [hp] at nb; exact absurd rfl nb
    | some t1 =>
      rw [hp] at nb ok
      cases t1 with
      | ls ts =>
        cases d with
        | int i =>
          simp only [intD] at nb ok
          cases hj0 : (if i.natAbs < 2 ^ 62 then ixN ts.length i else none) with
          | none => rw [hj0] at nb; exact absurd rfl nb
          | some j =>
            rw [hj0] at nb ok
            simp only at nb ok
            have hj : i.natAbs < 2 ^ 62 ∧ ixN ts.length i = some j := by
              split at hj0
              · rename_i q
                exact ⟨q, hj0⟩
              · cases hj0
            cases hg : ts[j]? with
            | none => rw [hg] at nb; exact absurd rfl nb
            | some t2 =>
              rw [hg] at nb ok
              cases t2 with
              | fz d0 =>
                simp only at nb ok
                have pl2 := pl.late n2 (hlate.imp id q2) (by rw [readP_own hp]; rfl)
                obtain ⟨b, vs, S, rfl, hb, lnn, ow, put⟩ := n2.rel.putLs pl2 hp
                obtain ⟨v0, U0, g1, g2, _⟩ := ow.get hg
                cases g2 with
                | fz g3 g4 =>
                  obtain ⟨S', ow', sub'⟩ := ow.cut j
                  obtain ⟨env', F', e1, R', st⟩ := put _ _ S' (fun _ => False) ow' (fun b x => .inl (sub' b x)) (fun _ _ x => x.elim) (fun b x => x.elim)
                  rw [e1] at ok
                  have ei := d2.1.int
                  subst ei
                  have zl := hj.1
                  refine ⟨b, vs, i, j, v0, rfl, rfl, hb, by omega, by omega, by rw [lnn]; exact (ixN_seq hj.2).1, g1, ?_⟩
                  exact ok d0 env' rfl v0 _ Z2 F' ((n1.trans n2).trans (nx_of R' st)) (fun z => by simp [quiet] at z) ⟨.inl g3, fun _ => g3⟩
              | _ => exact absurd rfl nb
        | _ => exact absurd rfl nb
      | _ => exact absurd rfl nb
  · exfalso
    unfold chkE at hc
    split at hc <;> first | contradiction | exact no _ _ _ _ _ rfl
theorem sd_pop {l : E} (hl : SdL G l) : SdE G (.pop l) := by
  intro N sc e hc X W k cx tk gk σ H Z env F P R nb rx Q ok
  refine mth0_shape (e := e) (fun x name apos pos he => ?_) fun no => ?_
  · subst he
    simp only [chkE, Bool.and_eq_true, decide_eq_true_eq] at hc
    obtain ⟨⟨⟨rfl, cl⟩, pb⟩, hln⟩ := hc
    simp only [evE] at nb rx ok
    refine wE_of (pe_bm0 PySem.F.plainAttrs_list PySem.F.slot_list_pop PySem.F.type_list_pop mt_pop pe_w (plB_base pb) (line_eq hln)) ?_
    refine hl N sc x cl X W k cx tk gk σ H Z env F P R (bind_nb nb) (rx.next (Nx.refl R) fun z env' h => bind_rx h) _ fun q env1 h1 v H1 Z1 F1 n1 q1 pl => ?_
    rw [h1] at nb ok rx
    simp only [bind_ok] at nb ok rx
    cases hp : ownP env1 q.1 q.2 with
    | none => rw [hp] at nb; exact absurd rfl nb
    | some t1 =>
      rw [hp] at nb ok
      cases t1 with
      | ls ts =>
        simp only at nb ok
        cases hg : ts[ts.length - 1]? with
        | none => rw [hg] at nb; exact absurd rfl nb
        | some t2 =>
          rw [hg] at nb ok
          cases t2 with
          | fz d0 =>
            simp only at nb ok
            have ty := pl.tyL (readP_own hp)
            obtain ⟨b, vs, S, rfl, hb, lnn, ow, put⟩ := n1.rel.putLs pl hp
            obtain ⟨v0, U0, g1, g2, _⟩ := ow.get hg
            cases g2 with
            | fz g3 g4 =>
              obtain ⟨S', ow', sub'⟩ := ow.cut (ts.length - 1)
              have ev : vs.eraseIdx (ts.length - 1) = vs.dropLast := by rw [← lnn]; exact List.eraseIdx_length_sub_one
              have et : ts.eraseIdx (ts.length - 1) = ts.dropLast := List.eraseIdx_length_sub_one
              rw [ev, et] at ow'
              obtain ⟨env', F', e1, R', st⟩ := put _ _ S' (fun _ => False) ow' (fun b x => .inl (sub' b x)) (fun _ _ x => x.elim) (fun b x => x.elim)
              rw [e1] at ok
              refine ⟨ty, b, vs, v0, rfl, rfl, hb, by rw [lnn]; exact g1, ?_⟩
              exact ok d0 env' rfl v0 _ Z1 F' (n1.trans (nx_of R' st)) (fun z => by simp [quiet] at z) ⟨.inl g3, fun _ => g3⟩
          | _ => exact absurd rfl nb
      | _ => exact absurd rfl nb
  · exfalso
    unfold chkE at hc
    split at hc <;> first | contradiction | exact no _ _ _ _ rfl
theorem sd_revL {l : E} (hl : SdL G l) : SdE G (.revL l) := by
  intro N sc e hc X W k cx tk gk σ H Z env F P R nb rx Q ok
  refine mth0_shape (e := e) (fun x name apos pos he => ?_) fun no => ?_
  · subst he
    simp only [chkE, Bool.and_eq_true, decide_eq_true_eq] at hc
    obtain ⟨⟨⟨rfl, cl⟩, pb⟩, hln⟩ := hc
    simp only [evE] at nb rx ok
    refine wE_of (pe_bm0 PySem.F.plainAttrs_list PySem.F.slot_list_reverse PySem.F.type_list_reverse mt_reverse pe_w (plB_base pb) (line_eq hln)) ?_
    refine hl N sc x cl X W k cx tk gk σ H Z env F P R (bind_nb nb) (rx.next (Nx.refl R) fun z env' h => bind_rx h) _ fun q env1 h1 v H1 Z1 F1 n1 q1 pl => ?_
    rw [h1] at nb ok rx
    simp only [bind_ok] at nb ok rx
    cases hp : ownP env1 q.1 q.2 with
    | none => rw [hp] at nb; exact absurd rfl nb
    | some t1 =>
      rw [hp] at nb ok
      cases t1 with
      | ls ts =>
        simp only at nb ok
        have ty := pl.tyL (readP_own hp)
        obtain ⟨b, vs, S, rfl, hb, lnn, ow, put⟩ := n1.rel.putLs pl hp
        obtain ⟨env', F', e1, R', st⟩ := put _ _ S (fun _ => False) ow.rev (fun b x => .inl x) (fun _ _ x => x.elim) (fun b x => x.elim)
        rw [e1] at ok
        refine ⟨ty, b, vs, rfl, rfl, hb, ?_⟩
        exact ok .none env' rfl .non _ Z1 F' (n1.trans (nx_of R' st)) (fun z => by simp [quiet] at z) ⟨.inl .non, fun _ => .non⟩
      | _ => exact absurd rfl nb
  · exfalso
    unfold chkE at hc
    split at hc <;> first | contradiction | exact no _ _ _ _ rfl
end
end Mp

end
section
set_option Elab.async false
set_option linter.all false
set_option maxRecDepth 100000
set_option autoImplicit false
/-! MiniPy, part O: what is walked, what is stored to. -/
namespace Mp
open PySem PySem.Spec PyProof.Rows L2

/-- an iterator whose turns give the items ds, wherever the state has gone on from (σ, H, Z, env, F) -/
def Walks1 (C : Ct) (J : It) (ds : List PyData) (σ : Sto) (H Z : Hp) (env : Env) (F : Nat → FS) : Prop :=
  ∀ (σ2 : Sto) (H2 Z2 : Hp) (env2 : Env) (F2 : Nat → FS) (P2 : List (Nat × V)), Rel C σ2 H2 Z2 env2 F2 P2 → Same Z Z2 → (∀ (i : Nat) t, env[i]? = some (Sl.ro t) → env2[i]? = some (Sl.ro t) ∧ σ2[i]? = σ[i]?) →
    (∀ i, ds.length ≤ i → J.stop i H2) ∧ ∀ (i : Nat) d, ds[i]? = some d → J.go i H2 ∧ ∀ x H', J.yld i H2 x H' → H' = H2 ∧ Dz C.K Z2 x d
def SdI (G : Gl) (m : E) : Prop := ∀ (N : List Str) (sc : Scope) (e : Expr), chkI N sc m e = true → ∀ (X : Cx) (W : WX) (k : Nat), CxOk N sc k X → Takes X W → GOk G (ctOf X) k → ∀ tg : Expr,
  ∃ wi : TI, PI X tg e wi ∧ (∀ x, foldedSetIterable e X.env x = pure x) ∧ ∀ (σ : Sto) (H Z : Hp) (env : Env) (F : Nat → FS) (P : List (Nat × V)), Rel (ctOf X) σ H Z env F P → evI G m env ≠ .bad → Rx (ctOf X) W σ H Z env F P (evI G m env) →
    ∀ R : It → Hp → Prop, (∀ ds env', evI G m env = .ok ds env' → ∀ J H' Z' F', Nx (ctOf X) σ H Z env F P H' Z' env' F' → Walks1 (ctOf X) J ds σ H' Z' (lk m env') F' → R J H') → wi σ H R
theorem plM_set {e : Expr} (h : plM e = true) {env : PySem.Env} : ∀ x, foldedSetIterable e env x = pure x := by
  cases e <;> first | (intro x; rfl) | simp [plM] at h
theorem call_set {f : Expr} {xs : List Expr} {kws : List Keyword} {pos : Pos} {env : PySem.Env} : ∀ x, foldedSetIterable (.Call f xs kws pos) env x = pure x := fun _ => rfl

/-! ### a name's list is locked while it is walked -/
theorem getElem_set_ne' {α : Type} {l : List α} {i j : Nat} {x : α} (h : j ≠ i) : (l.set i x)[j]? = l[j]? := List.getElem?_set_ne (Ne.symm h)
section
variable {C : Ct} {σ : Sto} {H Z H' Z' : Hp} {env env' : Env} {F F' : Nat → FS} {P : List (Nat × V)}
theorem rootT_ro {i r : Nat} {t : T} (h : env[i]? = some (Sl.own t)) : rootT (env.set i (.ro t)) r = rootT env r := by
  have hi := (List.getElem?_eq_some_iff.mp h).1
  unfold rootT
  by_cases e : r = i
  · subst e
    rw [List.getElem?_set_self hi, h]
  · rw [getElem_set_ne' e]
theorem Rel.lock (R : Rel C σ H Z env F P) {i : Nat} {t : T} (h : env[i]? = some (Sl.own t)) : Rel C σ H Z (env.set i (.ro t)) F P := by
  have hi := (List.getElem?_eq_some_iff.mp h).1
  have io : ∀ j, IsOwn (env.set i (.ro t)) j → j ≠ i ∧ IsOwn env j := fun j ⟨t0, e⟩ => by
    by_cases q : j = i
    · subst q
      rw [List.getElem?_set_self hi] at e
      cases e
    · rw [getElem_set_ne' q] at e
      exact ⟨q, t0, e⟩
  refine ⟨by simp [R.len], fun j s e => ?_, fun j e => ?_, fun j k b n ho x => R.dj j k b n (io j ho).2 x, fun j b ho x => R.az j b (io j ho).2 x, R.sub, fun j r p e => ?_, R.pr⟩
  · by_cases q : j = i
    · subst q
      rw [List.getElem?_set_self hi] at e
      cases e
      obtain ⟨x, e1, v, e2, o⟩ := R.slot j _ h
      exact ⟨x, e1, v, e2, o.toRd⟩
    · rw [getElem_set_ne' q] at e
      exact R.slot j s e
  · by_cases q : j = i
    · subst q
      rw [List.getElem?_set_self hi] at e
      cases e
    · rw [getElem_set_ne' q] at e
      exact R.out j e
  · by_cases q : j = i
    · subst q
      rw [List.getElem?_set_self hi] at e
      cases e
    · rw [getElem_set_ne' q] at e
      obtain ⟨v, w, a, b, c, d, f⟩ := R.al j r p e
      exact ⟨v, w, a, b, c, by unfold readP at d ⊢; rw [rootT_ro h]; exact d, f⟩
theorem Nx.unlock {σ' : Sto} {i : Nat} {t : T} (R : Rel C σ H Z env F P) (h : env[i]? = some (Sl.own t)) (hs : σ'[i]? = σ[i]?) (n : Nx C σ' H Z (env.set i (.ro t)) F P H' Z' env' F') : Nx C σ' H Z env F P H' Z' (env'.set i (.own t)) F' := by
  have hi := (List.getElem?_eq_some_iff.mp h).1
  have e0 : (env.set i (Sl.ro t))[i]? = some (Sl.ro t) := List.getElem?_set_self hi
  have e1 := (n.rok i t).1.mp e0
  have e2 := (n.rok i t).2 e0
  have hi' := (List.getElem?_eq_some_iff.mp e1).1
  have notA : ∀ b, F i b → ¬ Af (env.set i (.ro t)) F b := fun b x ⟨j, ⟨t0, e⟩, y⟩ => by
    by_cases q : j = i
    · subst q
      rw [List.getElem?_set_self hi] at e
      cases e
    · rw [getElem_set_ne' q] at e
      exact R.dj i j b (Ne.symm q) ⟨t, h⟩ x y
  have sb : ∀ j, IsOwn (env'.set i (.own t)) j → j = i ∨ IsOwn env' j := fun j ⟨t0, e⟩ => by
    by_cases q : j = i
    · exact .inl q
    · rw [getElem_set_ne' q] at e
      exact .inr ⟨t0, e⟩
  have sa : ∀ b, Af (env.set i (.ro t)) F b → Af env F b := fun b ⟨j, ⟨t0, e⟩, y⟩ => by
    by_cases q : j = i
    · subst q
      rw [List.getElem?_set_self hi] at e
      cases e
    · rw [getElem_set_ne' q] at e
      exact ⟨j, ⟨t0, e⟩, y⟩
  have R2 := n.rel
  obtain ⟨x, ex, v, ev, o⟩ := R.slot i _ h
  have o2 : Own C false H' Z' v t (F' i) := by
    rw [e2]
    exact n.stp.own o notA
  have zf : ∀ b, F' i b → Z' b = none := fun b x => by
    rw [e2] at x
    exact n.stp.free o notA (fun b y => R.az i b ⟨t, h⟩ y) b x
  have ap : ∀ j b, j ≠ i → F' i b → ¬ F' j b := fun j b q x y => by
    rw [e2] at x
    by_cases hj : IsOwn env' j
    · exact (n.stp.apart o notA b x) ⟨j, hj, y⟩
    · cases ej : env'[j]? with
      | none => exact R2.out j ej b y
      | some s =>
        obtain ⟨_, _, so⟩ := R2.slot j s ej
        cases s with
        | no => exact so b y
        | own t1 => exact hj ⟨t1, ej⟩
        | al _ _ => exact so.2 b y
        | ro t1 =>
          have e3 := (n.rok j t1).1.mpr ej
          have e4 := (n.rok j t1).2 e3
          rw [e4] at y
          exact R.dj i j b (Ne.symm q) ⟨t, h⟩ x y
  refine ⟨⟨by simp [R2.len], fun j s e => ?_, fun j e => ?_, fun j k b nn ho x => ?_, fun j b ho x => ?_, R2.sub, fun j r p e => ?_, R2.pr⟩, ⟨n.stp.zz, fun b ob e nn => n.stp.keep b ob e fun y => nn (sa b y), fun b x => ?_, fun b ob e => ?_⟩, n.all, fun j t0 => ?_⟩
  · by_cases q : j = i
    · subst q
      rw [List.getElem?_set_self hi'] at e
      cases e
      exact ⟨x, hs.trans ex, v, ev, o2⟩
    · rw [getElem_set_ne' q] at e
      exact R2.slot j s e
  · by_cases q : j = i
    · subst q
      rw [List.getElem?_set_self hi'] at e
      cases e
    · rw [getElem_set_ne' q] at e
      exact R2.out j e
  · by_cases q : j = i
    · subst q
      exact ap k b (Ne.symm nn) x
    · rcases sb j ho with z | z
      · exact absurd z q
      · by_cases q2 : k = i
        · subst q2
          exact fun y => ap j b q y x
        · exact R2.dj j k b nn z x
  · rcases sb j ho with z | z
    · subst z; exact zf b x
    · exact R2.az j b z x
  · by_cases q : j = i
    · subst q
      rw [List.getElem?_set_self hi'] at e
      cases e
    · rw [getElem_set_ne' q] at e
      obtain ⟨v, w, a, b, c, d, f⟩ := R2.al j r p e
      refine ⟨v, w, a, b, c, ?_, f⟩
      have er : rootT (env'.set i (.own t)) r = rootT env' r := by
        unfold rootT
        by_cases q2 : r = i
        · subst q2
          rw [List.getElem?_set_self hi', e1]
        · rw [getElem_set_ne' q2]
      unfold readP at d ⊢
      rw [er]
      exact d
  · obtain ⟨j, ho, y⟩ := x
    rcases sb j ho with z | z
    · subst z
      rw [e2] at y
      exact .inl ⟨j, ⟨t, h⟩, y⟩
    · rcases n.stp.new b ⟨j, z, y⟩ with u | u
      · exact .inl (sa b u)
      · exact .inr u
  · rcases n.stp.nz b ob e with u | u | u
    · exact .inl u
    · exact .inr (.inl (sa b u))
    · exact .inr (.inr u)
  · by_cases q : j = i
    · subst q
      rw [List.getElem?_set_self hi', h]
      exact ⟨⟨fun z => (by cases z), fun z => (by cases z)⟩, fun z => (by cases z)⟩
    · rw [getElem_set_ne' q]
      have r1 := n.rok j t0
      rw [getElem_set_ne' q] at r1
      exact r1
theorem Rel.lk (R : Rel C σ H Z env F P) (m : E) : Rel C σ H Z (lk m env) F P := by
  cases m with
  | lkv i =>
    simp only [Mp.lk]
    split
    · rename_i t h
      exact R.lock h
    · exact R
  | _ => exact R
/-- behind a loop: the list is the name's own again -/
theorem Nx.unlk {σ' : Sto} {m : E} (R : Rel C σ H Z env F P) (lkOk : ∀ i, m = .lkv i → ∃ t, env[i]? = some (Sl.own t)) (hs : ∀ i, m = .lkv i → σ'[i]? = σ[i]?) (n : Nx C σ' H Z (lk m env) F P H' Z' env' F') : Nx C σ' H Z env F P H' Z' (unlk m env') F' := by
  cases m with
  | lkv i =>
    obtain ⟨t, h⟩ := lkOk i rfl
    simp only [Mp.lk, h] at n
    have hi := (List.getElem?_eq_some_iff.mp h).1
    have e1 := (n.rok i t).1.mp (List.getElem?_set_self hi)
    simp only [Mp.unlk, e1]
    exact n.unlock R h (hs i rfl)
  | _ => exact n
end
section
variable {G : Gl}
theorem getElem_map_range {α : Type} {f : Nat → α} {n i : Nat} {d : α} (h : ((List.range n).map f)[i]? = some d) : i < n ∧ d = f i := by
  rw [List.getElem?_map] at h
  cases q : (List.range n)[i]? with
  | none => rw [q] at h; simp at h
  | some j =>
    obtain ⟨h1, h2⟩ := List.getElem?_eq_some_iff.mp q
    simp only [List.getElem_range] at h2
    rw [List.length_range] at h1
    rw [q] at h
    simp only [Option.map_some, Option.some.injEq] at h
    subst h2
    exact ⟨h1, h.symm⟩
theorem globB_range {N : List Str} {sc : Scope} {k : Nat} {X : Cx} {x y : Str} (cx : CxOk N sc k X) (e : x = y) (h : globB sc x = true) : L2.Gl X y := by
  subst e
  exact (globB_gl cx h).1
theorem sd_range1 {a : E} (ha : SdE G a) : SdI G (.range1 a) := by
  intro N sc e hc X W k cx tk gk tg
  have sh : ∃ x p y pos, e = .Call (.Name x p) [y] [] pos := by
    unfold chkI at hc
    split at hc <;> first | contradiction | exact ⟨_, _, _, _, rfl⟩
  obtain ⟨x, p, y, pos, rfl⟩ := sh
  simp only [chkI, Bool.and_eq_true, decide_eq_true_eq] at hc
  obtain ⟨⟨⟨rfl, hg⟩, ca⟩, ps⟩ := hc
  refine ⟨_, pi_range1 (globB_range cx rfl hg) gk.rg.1 (pa_cons pe_w pa_nil (plS_star ps)) (plS_star ps) , call_set, fun σ H Z env F P R nb rx Q ok => ?_⟩
  simp only [evI] at nb rx ok
  refine ha N sc y ca X W k cx tk gk σ H Z env F P R (bind_nb nb) (rx.next (Nx.refl R) fun z env' h => bind_rx h) _ fun d env1 h1 v H1 Z1 F1 n1 q1 d1 => ?_
  rw [h1] at nb ok
  simp only [bind_ok] at nb ok
  cases d with
  | int j =>
    simp only [intD] at nb ok
    obtain ⟨ds, hr⟩ := ofO_nb nb
    have ev := d1.1.int
    subst ev
    unfold rng2D at hr
    split at hr
    · rename_i hb
      have e := Option.some.inj hr
      rw [Int.sub_zero] at e
      subst e
      refine ⟨j, rfl, hb.2.2.1, hb.2.2.2, ok _ env1 (by rw [rng2D, if_pos hb, Int.sub_zero]; rfl) _ H1 Z1 F1 n1 fun σ2 H2 Z2 env2 F2 P2 R2 zz _ => ⟨fun i hi => ?_, fun i d hd => ?_⟩⟩
      · show j.toNat ≤ i
        simpa [upR] using hi
      · obtain ⟨h1, h2⟩ := getElem_map_range hd
        refine ⟨h1, fun x H' ⟨e1, e2⟩ => ⟨e1, ?_⟩⟩
        subst e2; subst h2
        exact .int _
    · cases hr
  | _ => exact absurd rfl nb
theorem sd_range2 {a b : E} (ha : SdE G a) (hb : SdE G b) : SdI G (.range2 a b) := by
  intro N sc e hc X W k cx tk gk tg
  have sh : ∃ x p y z pos, e = .Call (.Name x p) [y, z] [] pos := by
    unfold chkI at hc
    split at hc <;> first | contradiction | exact ⟨_, _, _, _, _, rfl⟩
  obtain ⟨x, p, y, z, pos, rfl⟩ := sh
  simp only [chkI, Bool.and_eq_true, decide_eq_true_eq] at hc
  obtain ⟨⟨⟨⟨⟨⟨rfl, hg⟩, ca⟩, cb⟩, hs⟩, ps⟩, ps'⟩ := hc
  refine ⟨_, pi_range2 (globB_range cx rfl hg) gk.rg.1 (pa_cons pe_w (pa_cons pe_w pa_nil (plS_star ps')) (plS_star ps)) (by rw [plS_star ps, plS_star ps']; rfl) (plS_star ps'), call_set, fun σ H Z env F P R nb rx Q ok => ?_⟩
  simp only [evI] at nb rx ok
  refine two ha hb ca cb hs cx tk gk R nb rx fun d e env2 nb2 eq v u H2 Z2 F2 n q dv du => ?_
  rw [eq] at ok
  cases d with
  | int i' => cases e with
    | int j =>
      simp only [intD] at nb2 ok
      obtain ⟨ds, hr⟩ := ofO_nb nb2
      have ev := dv.int
      have eu := du.1.int
      subst ev; subst eu
      unfold rng2D at hr
      split at hr
      · rename_i hb
        have e := Option.some.inj hr
        subst e
        refine ⟨i', j, rfl, hb, ok _ env2 (by rw [rng2D, if_pos hb]; rfl) _ H2 Z2 F2 n fun σ2 H2 Z2 env2 F2 P2 R2 zz _ => ⟨fun i hi => ?_, fun i d hd => ?_⟩⟩
        · show (j - i').toNat ≤ i
          simpa [upR] using hi
        · obtain ⟨h1, h2⟩ := getElem_map_range hd
          refine ⟨h1, fun x H' ⟨e1, e2⟩ => ⟨e1, ?_⟩⟩
          subst e2; subst h2
          exact .int _
      · cases hr
    | _ => exact absurd rfl nb2
  | _ => exact absurd rfl nb2
theorem sd_range3 {a b c : E} (ha : SdE G a) (hb : SdE G b) (hcc : SdE G c) : SdI G (.range3 a b c) := by
  intro N sc e hc X W k cx tk gk tg
  have sh : ∃ x p y z w pos, e = .Call (.Name x p) [y, z, w] [] pos := by
    unfold chkI at hc
    split at hc <;> first | contradiction | exact ⟨_, _, _, _, _, _, rfl⟩
  obtain ⟨x, p, y, z, w, pos, rfl⟩ := sh
  simp only [chkI, Bool.and_eq_true, decide_eq_true_eq] at hc
  obtain ⟨⟨⟨⟨⟨⟨⟨⟨⟨rfl, hg⟩, ca⟩, cb⟩, cc⟩, sa⟩, sb⟩, ps⟩, ps'⟩, ps''⟩ := hc
  refine ⟨_, pi_range3 (globB_range cx rfl hg) gk.rg.1 (pa_cons pe_w (pa_cons pe_w (pa_cons pe_w pa_nil (plS_star ps'')) (plS_star ps')) (plS_star ps)) (plS_star ps) (stars_no fun u hu => by
    simp only [List.mem_cons, List.not_mem_nil, or_false] at hu
    rcases hu with rfl | rfl
    · exact ps'
    · exact ps''), call_set, fun σ H Z env F P R nb rx Q ok => ?_⟩
  simp only [evI] at nb rx ok
  refine two ha hb ca cb (by rw [sa]; rfl) cx tk gk R nb rx fun d e env2 nb2 eq v u H2 Z2 F2 n q dv du => ?_
  rw [eq] at ok rx
  refine hcc N sc w cc X W k cx tk gk σ H2 Z2 env2 F2 P n.rel (bind_nb nb2) (rx.next n fun z env' h => bind_rx h) _ fun f env3 h3 t H3 Z3 F3 n3 q3 d3 => ?_
  rw [h3] at nb2 ok
  simp only [bind_ok] at nb2 ok
  cases d with
  | int i' => cases e with
    | int j => cases f with
      | int k' =>
        simp only [intD] at nb2 ok
        obtain ⟨ds, hr⟩ := ofO_nb nb2
        have ev := dv.int
        have eu := du.1.int
        have et := d3.1.int
        subst ev; subst eu; subst et
        unfold rng3D at hr
        split at hr
        · rename_i hb
          have e := Option.some.inj hr
          subst e
          refine ⟨i', j, k', (Builtin.Range.rangeSize i' j k').toNat, rfl, ⟨hb.1, hb.2.1, hb.2.2.1, (Int.toNat_of_nonneg hb.2.2.2).symm⟩, ok _ env3 (by rw [rng3D, if_pos hb]; rfl) _ H3 Z3 F3 (n.trans n3) fun σ2 H2 Z2 env2 F2 P2 R2 zz _ => ⟨fun i hi => ?_, fun i d hd => ?_⟩⟩
          · show (Builtin.Range.rangeSize i' j k').toNat ≤ i
            simpa [upC] using hi
          · obtain ⟨h1, h2⟩ := getElem_map_range hd
            refine ⟨h1, fun x H' ⟨e1, e2⟩ => ⟨e1, ?_⟩⟩
            subst e2; subst h2
            exact .int _
        · cases hr
      | _ => exact absurd rfl nb2
    | _ => exact absurd rfl nb2
  | _ => exact absurd rfl nb2
theorem sd_itv {a : E} (ha : SdE G a) : SdI G (.itv a) := by
  intro N sc e hc X W k cx tk gk tg
  simp only [chkI, Bool.and_eq_true] at hc
  refine ⟨_, pi_list pe_w, plM_set hc.2, fun σ H Z env F P R nb rx Q ok => ?_⟩
  simp only [evI] at nb rx ok
  refine ha N sc e hc.1.1 X W k cx tk gk σ H Z env F P R (bind_nb nb) (rx.next (Nx.refl R) fun z env' h => bind_rx h) _ fun d env1 h1 v H1 Z1 F1 n1 q1 d1 => ?_
  rw [h1] at nb ok
  simp only [bind_ok] at nb ok
  cases d with
  | list ds =>
    have dz := d1.2 hc.1.2
    cases dz with
    | lst r1 z1 =>
      refine ⟨_, rfl, ⟨_, .inl (rd_same n1.rel.sub r1)⟩, ok _ env1 rfl _ H1 Z1 F1 n1 fun σ2 H2 Z2 env2 F2 P2 R2 zz _ => ?_⟩
      have r2 := rd_same R2.sub (rd_same zz r1)
      have z2 := dpAll_same zz z1
      refine ⟨fun i hi => ⟨_, .inl r2, by rw [dpAll_len z2]; exact hi⟩, fun i d hd => ?_⟩
      obtain ⟨w, hw, dw⟩ := dpAll_get z2 hd
      refine ⟨⟨_, w, .inl r2, hw⟩, fun x H' ⟨e1, e2⟩ => ⟨e1, ?_⟩⟩
      have := e2 _ (.inl r2)
      rw [hw] at this
      have e3 := Option.some.inj this
      subst e3
      exact dw
  | _ => exact absurd rfl nb
theorem sd_itt {a : E} (ha : SdE G a) : SdI G (.itt a) := by
  intro N sc e hc X W k cx tk gk tg
  simp only [chkI, Bool.and_eq_true] at hc
  refine ⟨_, pi_tup pe_w, plM_set hc.2, fun σ H Z env F P R nb rx Q ok => ?_⟩
  simp only [evI] at nb rx ok
  refine ha N sc e hc.1.1 X W k cx tk gk σ H Z env F P R (bind_nb nb) (rx.next (Nx.refl R) fun z env' h => bind_rx h) _ fun d env1 h1 v H1 Z1 F1 n1 q1 d1 => ?_
  rw [h1] at nb ok
  simp only [bind_ok] at nb ok
  cases d with
  | tuple ds =>
    have dz := d1.2 hc.1.2
    cases dz with
    | tup r1 z1 =>
      refine ⟨_, rfl, ⟨_, sqT_same n1.rel.sub r1⟩, ok _ env1 rfl _ H1 Z1 F1 n1 fun σ2 H2 Z2 env2 F2 P2 R2 zz _ => ?_⟩
      have r2 := sqT_same R2.sub (sqT_same zz r1)
      have z2 := dpAll_same zz z1
      refine ⟨fun i hi => ⟨_, r2, by rw [dpAll_len z2]; exact hi⟩, fun i d hd => ?_⟩
      obtain ⟨w, hw, dw⟩ := dpAll_get z2 hd
      refine ⟨⟨_, w, r2, hw⟩, fun x H' ⟨e1, e2⟩ => ⟨e1, ?_⟩⟩
      have := e2 _ r2
      rw [hw] at this
      have e3 := Option.some.inj this
      subst e3
      exact dw
  | _ => exact absurd rfl nb
theorem sd_its {a : E} (ha : SdE G a) : SdI G (.its a) := by
  intro N sc e hc X W k cx tk gk tg
  simp only [chkI, Bool.and_eq_true] at hc
  refine ⟨_, pi_str pe_w, plM_set hc.2, fun σ H Z env F P R nb rx Q ok => ?_⟩
  simp only [evI] at nb rx ok
  refine ha N sc e hc.1.1 X W k cx tk gk σ H Z env F P R (bind_nb nb) (rx.next (Nx.refl R) fun z env' h => bind_rx h) _ fun d env1 h1 v H1 Z1 F1 n1 q1 d1 => ?_
  rw [h1] at nb ok
  simp only [bind_ok] at nb ok
  cases d with
  | str z =>
    have ev := d1.1.str
    subst ev
    refine ⟨z, rfl, ok _ env1 rfl _ H1 Z1 F1 n1 fun σ2 H2 Z2 env2 F2 P2 R2 zz _ => ⟨fun i hi => ?_, fun i d hd => ?_⟩⟩
    · show z.cps.size ≤ i
      simpa using hi
    · rw [List.getElem?_map] at hd
      obtain ⟨c, hc1, rfl⟩ := Option.map_eq_some_iff.mp hd
      have lt := (List.getElem?_eq_some_iff.mp hc1).1
      refine ⟨show i < z.cps.size by simpa using lt, fun x H' ⟨e1, c', e2, e3⟩ => ⟨e1, ?_⟩⟩
      subst e3
      rw [Array.getElem?_toList] at hc1
      rw [hc1] at e2
      have := Option.some.inj e2
      subst this
      exact .str _
  | _ => exact absurd rfl nb
theorem sd_revI {a : E} (ha : SdE G a) : SdI G (.revI a) := by
  intro N sc e hc X W k cx tk gk tg
  have sh : ∃ x p y pos, e = .Call (.Name x p) [y] [] pos := by
    unfold chkI at hc
    split at hc <;> first | contradiction | exact ⟨_, _, _, _, rfl⟩
  obtain ⟨x, p, y, pos, rfl⟩ := sh
  simp only [chkI, Bool.and_eq_true, decide_eq_true_eq] at hc
  obtain ⟨⟨⟨⟨rfl, hg⟩, ca⟩, sa⟩, ps⟩ := hc
  refine ⟨_, pi_reversed (globB_range cx rfl hg) gk.rg.2.1 (pa_cons pe_w pa_nil (plS_star ps)) (plS_star ps) , call_set, fun σ H Z env F P R nb rx Q ok => ?_⟩
  simp only [evI] at nb rx ok
  refine ha N sc y ca X W k cx tk gk σ H Z env F P R (bind_nb nb) (rx.next (Nx.refl R) fun z env' h => bind_rx h) _ fun d env1 h1 v H1 Z1 F1 n1 q1 d1 => ?_
  rw [h1] at nb ok
  simp only [bind_ok] at nb ok
  cases d with
  | list ds =>
    have dz := d1.2 sa
    cases dz with
    | lst r1 z1 =>
      refine ⟨_, _, rfl, .inl (rd_same n1.rel.sub r1), ok _ env1 rfl _ H1 Z1 F1 n1 fun σ2 H2 Z2 env2 F2 P2 R2 zz _ => ?_⟩
      have r2 := rd_same R2.sub (rd_same zz r1)
      have z2 := dpAll_same zz z1
      have ln := dpAll_len z2
      refine ⟨fun i hi => by rw [List.length_reverse] at hi; exact ln ▸ hi, fun i d hd => ?_⟩
      have lt : i < ds.length := by
        have := (List.getElem?_eq_some_iff.mp hd).1
        simpa using this
      rw [List.getElem?_reverse lt] at hd
      obtain ⟨w, hw, dw⟩ := dpAll_get z2 hd
      rw [← ln] at hw
      refine ⟨⟨by omega, _, w, .inl r2, hw⟩, fun x H' ⟨e1, e2⟩ => ⟨e1, ?_⟩⟩
      have := e2 _ (.inl r2)
      rw [hw] at this
      have e3 := Option.some.inj this
      subst e3
      exact dw
  | _ => exact absurd rfl nb
theorem sd_lkv (i : Nat) : SdI G (.lkv i) := by
  intro N sc e hc X W k cx tk gk tg
  have sh : ∃ x pos, e = .Name x pos := by
    unfold chkI at hc
    split at hc <;> first | contradiction | exact ⟨_, _, rfl⟩
  obtain ⟨x, pos, rfl⟩ := sh
  simp only [chkI] at hc
  refine ⟨_, pi_list (nameB_pe cx hc), fun _ => rfl, fun σ H Z env F P R nb rx Q ok => ?_⟩
  simp only [evI] at nb rx ok
  cases q : env[i]? with
  | none => rw [q] at nb; exact absurd rfl nb
  | some s =>
    rw [q] at nb ok
    cases s with
    | own t =>
      cases t with
      | ls ts =>
        simp only at nb ok
        cases hf : flatT ts with
        | none => rw [hf] at nb; exact absurd rfl nb
        | some ds =>
          rw [hf] at ok
          obtain ⟨x0, e1, v, e2, o⟩ := R.slot i _ q
          subst e2
          have hi := (List.getElem?_eq_some_iff.mp q).1
          refine ⟨v, e1, ?_⟩
          cases o with
          | @ls a vs _ S _ o1 o2 o3 o4 =>
            refine ⟨a, rfl, ⟨vs, .inl o1.rd⟩, ok ds env rfl _ H Z F (Nx.refl R) fun σ2 H2 Z2 env2 F2 P2 R2 zz ro => ?_⟩
            obtain ⟨k1, k2⟩ := ro i (.ls ts) (by simp only [lk, q]; exact List.getElem?_set_self hi)
            obtain ⟨x2, f1, v2, f2, g⟩ := R2.slot i _ k1
            subst f2
            rw [k2, e1] at f1
            have f3 := Option.some.inj (Option.some.inj f1)
            subst f3
            cases g with
            | @ls _ ws _ _ _ g1 g2 _ _ =>
              have z2 := ownL_fzs g2 (flatT_eq hf)
              have r2 := g1.rd
              refine ⟨fun i hi => ⟨_, .inl r2, by rw [dpAll_len z2]; exact hi⟩, fun i d hd => ?_⟩
              obtain ⟨w, hw, dw⟩ := dpAll_get z2 hd
              refine ⟨⟨_, w, .inl r2, hw⟩, fun x H' ⟨e1, e2⟩ => ⟨e1, ?_⟩⟩
              have := e2 _ (.inl r2)
              rw [hw] at this
              have e3 := Option.some.inj this
              subst e3
              exact dw
      | _ => exact absurd rfl nb
    | _ => exact absurd rfl nb
end
end Mp

end
section
set_option Elab.async false
set_option linter.all false
set_option maxRecDepth 100000
set_option autoImplicit false
/-! MiniPy, part P: names that are bound. -/
namespace Mp
open PySem PySem.Spec PyProof.Rows L2

section
variable {C : Ct} {σ σ' : Sto} {H Z : Hp} {env env' : Env} {F F' : Nat → FS} {P : List (Nat × V)}
theorem setT_some {i : Nat} {t : T} (h : setT env i t = some env') : i < env.length ∧ (∀ t0, env[i]? ≠ some (Sl.ro t0)) ∧ env' = setV env i (.own t) := by
  unfold setT at h
  cases q : env[i]? with
  | none => rw [q] at h; cases h
  | some s =>
    rw [q] at h
    have hi := (List.getElem?_eq_some_iff.mp q).1
    cases s with
    | ro t0 => cases h
    | _ => exact ⟨hi, (fun t0 z => nomatch z), (Option.some.inj h).symm⟩
theorem setV_ro {i : Nat} {t : T} (hi : i < env.length) (h : ∀ t0, env[i]? ≠ some (Sl.ro t0)) (j : Nat) (t0 : T) : env[j]? = some (Sl.ro t0) ↔ (setV env i (.own t))[j]? = some (Sl.ro t0) := by
  rw [setV_get]
  by_cases q : j = i
  · subst q
    rw [if_pos rfl, if_pos hi]
    exact ⟨fun z => absurd z (h t0), fun z => by cases z⟩
  · rw [if_neg q]
    cases e : env[j]? with
    | none => simp
    | some s => simp only [Option.map_some, Option.some.injEq, dropAl_ro]
/-- what a store to names leaves -/
structure Mv (ts : List Nat) (σ : Sto) (env : Env) (F : Nat → FS) (σ' : Sto) (env' : Env) (F' : Nat → FS) (U : FS) : Prop where
  len : σ'.length = σ.length
  frm : ∀ i, i ∉ ts → σ'[i]? = σ[i]?
  sub : ∀ j b, F' j b → F j b ∨ U b
  own : ∀ b, Af env' F' b → Af env F b ∨ U b
  rok : ∀ (i : Nat) t, (env[i]? = some (Sl.ro t) ↔ env'[i]? = some (Sl.ro t)) ∧ (env[i]? = some (Sl.ro t) → F' i = F i)
  ros : ∀ (i : Nat) t, env[i]? = some (Sl.ro t) → σ'[i]? = σ[i]?
theorem Mv.refl {U : FS} : Mv [] σ env F σ env F U := ⟨rfl, fun _ _ => rfl, fun _ _ h => .inl h, fun _ h => .inl h, fun _ _ => ⟨Iff.rfl, fun _ => rfl⟩, fun _ _ _ => rfl⟩
theorem Mv.trans {ts ts' : List Nat} {σ1 σ2 : Sto} {env1 env2 : Env} {F1 F2 : Nat → FS} {U U' W : FS} (a : Mv ts σ env F σ1 env1 F1 U) (b : Mv ts' σ1 env1 F1 σ2 env2 F2 U') (h : ∀ b, U b → W b) (h' : ∀ b, U' b → W b) : Mv (ts ++ ts') σ env F σ2 env2 F2 W where
  len := b.len.trans a.len
  frm := fun i n => (b.frm i fun z => n (List.mem_append.mpr (.inr z))).trans (a.frm i fun z => n (List.mem_append.mpr (.inl z)))
  sub := fun j c x => (b.sub j c x).elim (fun y => (a.sub j c y).imp id (h c)) fun y => .inr (h' c y)
  own := fun c x => (b.own c x).elim (fun y => (a.own c y).imp id (h c)) fun y => .inr (h' c y)
  rok := fun i t => ⟨(a.rok i t).1.trans (b.rok i t).1, fun h => ((b.rok i t).2 ((a.rok i t).1.mp h)).trans ((a.rok i t).2 h)⟩
  ros := fun i t h => (b.ros i t ((a.rok i t).1.mp h)).trans (a.ros i t h)
theorem Rel.store (R : Rel C σ H Z env F P) {i : Nat} {v : V} {t : T} {U : FS} (h : setT env i t = some env') (o : Own C false H Z v t U) (ap : Apt F U) (zf : ∀ b, U b → Z b = none) (hP : ∀ q ∈ P, q.1 ≠ i) :
    Rel C (σ.set i (some v)) H Z env' (upF F i U) P ∧ Mv [i] σ env F (σ.set i (some v)) env' (upF F i U) U := by
  obtain ⟨hi, nr, rfl⟩ := setT_some h
  refine ⟨R.setVal hi o ap zf hP, by simp, fun j n => ?_, fun j b x => ?_, af_setV, fun j t0 => ⟨setV_ro hi nr j t0, fun e => ?_⟩, fun j t0 e => ?_⟩
  · exact List.getElem?_set_ne (fun z => n (by rw [← z]; exact List.mem_singleton.mpr rfl))
  · unfold upF at x
    split at x
    · exact .inr x
    · exact .inl x
  · unfold upF
    rw [if_neg]
    rintro rfl
    exact nr _ e
  · refine List.getElem?_set_ne ?_
    rintro rfl
    exact nr _ e
/-- on from a store that changed no heap -/
theorem Mv.stp {ts : List Nat} {U : FS} (m : Mv ts σ env F σ' env' F' U) : Stp H Z (fun b => Af env F b ∨ U b) H Z (Af env' F') :=
  ⟨Same.refl Z, fun _ _ h _ => h, fun b x => .inl (m.own b x), fun _ _ h => .inl h⟩
end

/-! ### targets -/
section
variable {N : List Str} {sc : Scope} {k : Nat} {X : Cx} {fl : Str → Bool}
theorem locB_pg {i : Nat} {x : Str} {pos : Pos} (c : CxOk N sc k X) (hf : ∀ x, fl x = true → X.fn x = true) (h : locB N sc fl i x = true) : PG X (.Name x pos) (gName i) := by
  unfold locB at h
  simp only [Bool.and_eq_true, Bool.or_eq_true, decide_eq_true_eq] at h
  obtain ⟨h1, h2⟩ := h
  have hn : X.N.Nodup := by rw [c.nm]; exact c.nd
  have hi : X.N[i]? = some x := by rw [c.nm]; exact h1
  rcases h2 with h2 | ⟨h2, h3⟩
  · have e : X.env.scope.names.lookup x = some .local := by rw [c.sc]; exact h2
    exact pg_name hn hi (.inl e) (.inr e)
  · have e : X.env.scope.names.lookup x = some .cell := by rw [c.sc]; exact h3
    exact pg_name hn hi (.inr e) (.inl (hf x h2))
/-- a target, stored to -/
def Bnd (X : Cx) (m : E) (g : TG) : Prop := ∀ (σ : Sto) (H Z : Hp) (env : Env) (F : Nat → FS) (P : List (Nat × V)) (v : V) (d : PyData) (env' : Env), Rel (ctOf X) σ H Z env F P → Dz X.K Z v d → bindT m d env = some env' → (∀ q ∈ P, q.1 ∉ tgtsOf m) →
  ∀ Q : Sto → Hp → Prop, (∀ σ' F', Rel (ctOf X) σ' H Z env' F' P → Mv (tgtsOf m) σ env F σ' env' F' (fun _ => False) → Q σ' H) → g v σ H Q
theorem bnd_var {i : Nat} {x : Str} {pos : Pos} (c : CxOk N sc k X) (hf : ∀ x, fl x = true → X.fn x = true) (h : locB N sc fl i x = true) : PG X (.Name x pos) (gName i) ∧ Bnd X (.tvar i) (gName i) := by
  refine ⟨locB_pg c hf h, fun σ H Z env F P v d env' R dz hb hP Q ok => ?_⟩
  simp only [bindT] at hb
  obtain ⟨R', m⟩ := R.store hb (.fz (U := fun _ => False) dz fun _ x => x) (fun _ _ x => x.elim) (fun _ x => x.elim) fun q hq e => hP q hq (by simp [tgtsOf, e])
  exact ok _ _ R' m
theorem bnd_list (c : CxOk N sc k X) (hf : ∀ x, fl x = true → X.fn x = true) : ∀ {es : List Expr} {m : E}, chkNs N sc fl m es = true → ∃ g, PGs X es g ∧ (assignEach es X.env).length = es.length ∧ (assignEach es X.env).findIdx? (·.1) = none ∧
    ∀ (σ : Sto) (H Z : Hp) (env : Env) (F : Nat → FS) (P : List (Nat × V)) (vs : List V) (ds : List PyData) (env' : Env), Rel (ctOf X) σ H Z env F P → DzAll X.K Z vs ds → bindT m (.tuple ds) env = some env' → (∀ q ∈ P, q.1 ∉ tgtsOf m) →
      vs.length = es.length ∧ ∀ Q : Sto → Hp → Prop, (∀ σ' F', Rel (ctOf X) σ' H Z env' F' P → Mv (tgtsOf m) σ env F σ' env' F' (fun _ => False) → Q σ' H) → g vs σ H Q
  | [], m, h => by
    cases m with
    | nil =>
      refine ⟨gNil, pgs_nil, rfl, rfl, fun σ H Z env F P vs ds env' R dz hb hP => ?_⟩
      cases ds with
      | nil =>
        cases dz
        simp only [bindT, Option.some.injEq] at hb
        subst hb
        exact ⟨rfl, fun Q ok => ⟨rfl, ok σ F R Mv.refl⟩⟩
      | cons d ds => simp [bindT] at hb
    | _ => simp [chkNs] at h
  | e :: es, m, h => by
    cases m with
    | cons a r =>
      simp only [chkNs, Bool.and_eq_true] at h
      obtain ⟨h1, h2⟩ := h
      cases a with
      | tvar i =>
        cases e with
        | Name x pos =>
          simp only [chkN] at h1
          obtain ⟨p1, b1⟩ := bnd_var (pos := pos) c hf h1
          obtain ⟨g, p2, l2, f2, b2⟩ := bnd_list c hf h2
          have he : assignEach (Expr.Name x pos :: es) X.env = (false, assign (.Name x pos) X.env) :: assignEach es X.env := rfl
          refine ⟨gCons (gName i) g, pgs_cons p1 p2 (by rw [he]; rfl), by rw [he]; simp [l2], by rw [he, List.findIdx?_cons]; simp [f2], fun σ H Z env F P vs ds env' R dz hb hP => ?_⟩
          cases ds with
          | nil => simp [bindT] at hb
          | cons d ds =>
            cases dz with
            | @cons v ws _ _ dz1 dz2 =>
              simp only [bindT] at hb
              cases q : setT env i (.fz d) with
              | none => rw [q] at hb; cases hb
              | some env1 =>
                rw [q] at hb
                simp only at hb
                have hp1 : ∀ q ∈ P, q.1 ∉ tgtsOf (.tvar i) := fun q hq z => hP q hq (List.mem_append.mpr (.inl z))
                have hp2 : ∀ q ∈ P, q.1 ∉ tgtsOf r := fun q hq z => hP q hq (List.mem_append.mpr (.inr z))
                obtain ⟨R1, m1⟩ := R.store q (.fz (U := fun _ => False) dz1 fun _ x => x) (fun _ _ x => x.elim) (fun _ x => x.elim) fun q hq e => hp1 q hq (by simp [tgtsOf, e])
                obtain ⟨l3, go⟩ := b2 _ H Z env1 _ P ws ds env' R1 dz2 hb hp2
                refine ⟨by simp [l3], fun Q ok => ⟨v, ws, rfl, ?_⟩⟩
                show g ws (σ.set i (some v)) H Q
                exact go Q fun σ' F' R' m' => ok σ' F' R' (m1.trans m' (fun _ x => x) fun _ x => x)
        | _ => simp [chkN] at h1
      | _ => simp [chkN] at h1
    | _ => simp [chkNs] at h
theorem chkB_pg {m : E} {e : Expr} (c : CxOk N sc k X) (hf : ∀ x, fl x = true → X.fn x = true) (h : chkB N sc fl m e = true) : ∃ g, PG X e g ∧ Bnd X m g := by
  have sh : (∃ i x pos, m = .tvar i ∧ e = .Name x pos ∧ locB N sc fl i x = true) ∨ ∃ a r xs kk pos, m = .cons a r ∧ e = .Tuple xs kk pos ∧ chkNs N sc fl (.cons a r) xs = true := by
    unfold chkB at h
    split at h
    · exact .inl ⟨_, _, _, rfl, rfl, h⟩
    · exact .inr ⟨_, _, _, _, _, rfl, rfl, h⟩
    · cases h
  rcases sh with ⟨i, x, pos, rfl, rfl, h⟩ | ⟨a, r, xs, kk, pos, rfl, rfl, h⟩
  · exact ⟨_, bnd_var c hf h⟩
  · obtain ⟨g, p, l, f, b⟩ := bnd_list c hf h
    refine ⟨gTup X.K xs.length g, pg_tup c.calm p l f, fun σ H Z env F P v d env' R dz hb hP Q ok => ?_⟩
    cases d with
    | tuple ds =>
      cases dz with
      | @tup a xs' _ h1 h2 =>
        obtain ⟨l3, go⟩ := b σ H Z env F P _ ds env' R h2 hb hP
        exact ⟨a, xs', rfl, sqT_same R.sub h1, l3, go Q ok⟩
    | _ => simp [bindT] at hb
end
end Mp

end
section
set_option Elab.async false
set_option linter.all false
set_option maxRecDepth 100000
set_option autoImplicit false
/-! MiniPy, part Q: trees. -/
namespace Mp
open PySem PySem.Spec PyProof.Rows L2

/-- behind a tree: the state has gone on, the tree stands apart -/
structure Ox (C : Ct) (σ : Sto) (H Z : Hp) (env : Env) (F : Nat → FS) (P : List (Nat × V)) (q : Bool) (H' Z' : Hp) (env' : Env) (F' : Nat → FS) (U : FS) : Prop where
  n : Nx C σ H Z env F P H' Z' env' F'
  live : ∀ b, U b → ∃ o, H' b = some o
  ap : Apt F' U
  zf : ∀ b, U b → Z' b = none
  st : Stp H Z (Af env F) H' Z' (fun b => Af env' F' b ∨ U b)
  q : q = true → Same H H' ∧ env' = env ∧ F' = F
def SdO (G : Gl) (m : E) : Prop := ∀ (N : List Str) (sc : Scope) (e : Expr), chkO N sc m e = true → ∀ (X : Cx) (W : WX) (k : Nat), CxOk N sc k X → Takes X W → GOk G (ctOf X) k →
  ∀ (σ : Sto) (H Z : Hp) (env : Env) (F : Nat → FS) (P : List (Nat × V)), Rel (ctOf X) σ H Z env F P → evO G m env ≠ .bad → Rx (ctOf X) W σ H Z env F P (evO G m env) →
  ∀ Q : VK, (∀ t env', evO G m env = .ok t env' → ∀ v H' Z' F' U, Ox (ctOf X) σ H Z env F P (quiet m) H' Z' env' F' U → Own (ctOf X) false H' Z' v t U → Q v H') → wE X e σ H Q
def SdOs (G : Gl) (m : E) : Prop := ∀ (N : List Str) (sc : Scope) (es : List Expr), chkOs N sc m es = true → ∀ (X : Cx) (W : WX) (k : Nat), CxOk N sc k X → Takes X W → GOk G (ctOf X) k →
  ∀ (σ : Sto) (H Z : Hp) (env : Env) (F : Nat → FS) (P : List (Nat × V)), Rel (ctOf X) σ H Z env F P → evOs G m env ≠ .bad → Rx (ctOf X) W σ H Z env F P (evOs G m env) →
  ∀ Q : List V → Hp → Prop, (∀ ts env', evOs G m env = .ok ts env' → ∀ vs H' Z' F' U, Ox (ctOf X) σ H Z env F P (quiet m) H' Z' env' F' U → OwnL (ctOf X) false H' Z' vs ts U → Q vs H') → wA X es σ H Q
section
variable {C : Ct} {σ : Sto} {H Z H1 Z1 H2 Z2 : Hp} {env env1 env2 : Env} {F F1 F2 : Nat → FS} {P : List (Nat × V)} {U U' : FS} {q q' : Bool}
theorem Stp.frame {H Z H' Z' : Hp} {A A' : FS} (s : Stp H Z A H' Z' A') (U : FS) : Stp H Z (fun b => A b ∨ U b) H' Z' (fun b => A' b ∨ U b) :=
  s.mono (fun b x => .inl x) fun b x => x.elim .inl fun y => .inr (.inr y)
theorem Stp.keepU {H Z H' Z' : Hp} {A A' : FS} (s : Stp H Z A H' Z' A') {U : FS} (live : ∀ b, U b → ∃ o, H b = some o) (d : ∀ b, U b → ¬ A b) : (∀ b, U b → ∃ o, H' b = some o) ∧ (∀ b, U b → ¬ A' b) ∧ ((∀ b, U b → Z b = none) → ∀ b, U b → Z' b = none) := by
  refine ⟨fun b x => ?_, fun b x y => ?_, fun zf b x => ?_⟩
  · obtain ⟨o, e⟩ := live b x
    exact ⟨o, s.keep b o e (d b x)⟩
  · obtain ⟨o, e⟩ := live b x
    rcases s.new b y with z | z
    · exact d b x z
    · rw [e] at z; cases z
  · cases e : Z' b with
    | none => rfl
    | some o =>
      obtain ⟨o', e'⟩ := live b x
      rcases s.nz b o e with z | z | z
      · rw [zf b x] at z; cases z
      · exact absurd z (d b x)
      · rw [e'] at z; cases z
theorem Nx.apt (n : Nx C σ H Z env F P H1 Z1 env1 F1) (live : ∀ b, U b → ∃ o, H b = some o) (ap : Apt F U) : Apt F1 U := fun j b x y => by
  rcases n.all j b y with ⟨i, z⟩ | z
  · exact ap i b x z
  · obtain ⟨o, e⟩ := live b x
    rw [e] at z; cases z
theorem Apt.af (ap : Apt F U) : ∀ b, U b → ¬ Af env F b := fun b x ⟨i, _, y⟩ => ap i b x y
theorem Ox.nil (n : Nx C σ H Z env F P H1 Z1 env1 F1) (hq : q = true → Same H H1 ∧ env1 = env ∧ F1 = F) : Ox C σ H Z env F P q H1 Z1 env1 F1 (fun _ => False) :=
  ⟨n, fun _ x => x.elim, fun _ _ x => x.elim, fun _ x => x.elim, n.stp.mono (fun _ x => x) fun b x => x.elim .inl False.elim, hq⟩
/-- a tree, then a step that leaves it alone -/
theorem Ox.next (a : Ox C σ H Z env F P q H1 Z1 env1 F1 U) (n : Nx C σ H1 Z1 env1 F1 P H2 Z2 env2 F2) (hq : q' = true → q = true ∧ Same H1 H2 ∧ env2 = env1 ∧ F2 = F1) : Ox C σ H Z env F P q' H2 Z2 env2 F2 U := by
  obtain ⟨k1, k2, k3⟩ := n.stp.keepU a.live a.ap.af
  refine ⟨a.n.trans n, k1, n.apt a.live a.ap, k3 a.zf, a.st.trans (n.stp.frame U), fun z => ?_⟩
  obtain ⟨z1, z2, z3, z4⟩ := hq z
  obtain ⟨y1, y2, y3⟩ := a.q z1
  exact ⟨y1.trans z2, z3.trans y2, z4.trans y3⟩
/-- a step, then a tree -/
theorem Ox.after (n : Nx C σ H Z env F P H1 Z1 env1 F1) (a : Ox C σ H1 Z1 env1 F1 P q H2 Z2 env2 F2 U) (hq : q' = true → q = true ∧ Same H H1 ∧ env1 = env ∧ F1 = F) : Ox C σ H Z env F P q' H2 Z2 env2 F2 U := by
  refine ⟨n.trans a.n, a.live, a.ap, a.zf, n.stp.trans a.st, fun z => ?_⟩
  obtain ⟨z1, z2, z3, z4⟩ := hq z
  obtain ⟨y1, y2, y3⟩ := a.q z1
  exact ⟨z2.trans y1, y2.trans z3, y3.trans z4⟩
/-- two trees in a row -/
theorem Ox.two (a : Ox C σ H Z env F P q H1 Z1 env1 F1 U) (b : Ox C σ H1 Z1 env1 F1 P q' H2 Z2 env2 F2 U') : Ox C σ H Z env F P (q && q') H2 Z2 env2 F2 (fun b => U b ∨ U' b) ∧ ∀ b, U b → ¬ U' b := by
  obtain ⟨k1, k2, k3⟩ := b.st.keepU a.live a.ap.af
  refine ⟨⟨a.n.trans b.n, fun c x => x.elim (k1 c) (b.live c), fun j c x => x.elim (fun y => b.n.apt a.live a.ap j c y) (b.ap j c), fun c x => x.elim (k3 a.zf c) (b.zf c), a.st.trans ((b.st.frame U).mono (fun c x => x) fun c x => ?_), fun z => ?_⟩, fun c x y => k2 c x (.inr y)⟩
  · rcases x with x | x | x
    · exact .inl (.inl (.inl x))
    · exact .inl (.inr x)
    · exact .inl (.inl (.inr x))
  · rw [Bool.and_eq_true] at z
    obtain ⟨a1, a2, a3⟩ := a.q z.1
    obtain ⟨b1, b2, b3⟩ := b.q z.2
    exact ⟨a1.trans b1, b2.trans a2, b3.trans a3⟩
/-- a tree that is laid into a new object -/
theorem Ox.into (a : Ox C σ H Z env F P q H1 Z1 env1 F1 U) {p : Addr} {o : HO} (hp : H1 p = none) (hq : q' = true → False) : Ox C σ H Z env F P q' (upd H1 p o) Z1 env1 F1 (fun b => b = p ∨ U b) ∧ ¬ U p := by
  obtain ⟨R', e, ap, zp⟩ := a.n.rel.newA (o := o) hp
  have np : ¬ U p := fun x => by
    obtain ⟨o', e'⟩ := a.live p x
    rw [hp] at e'; cases e'
  have st1 : Stp H1 Z1 (Af env1 F1) (upd H1 p o) Z1 (Af env1 F1) := Stp.newA hp fun b x => .inl x
  refine ⟨⟨a.n.trans ⟨R', st1, fun j b x => .inl ⟨j, x⟩, fun _ _ => ⟨Iff.rfl, fun _ => rfl⟩⟩, fun b x => ?_, fun j b x => x.elim (ap j b) (a.ap j b), fun b x => ?_, ?_, fun z => (hq z).elim⟩, np⟩
  · rcases x with rfl | x
    · exact ⟨_, upd_same⟩
    · obtain ⟨o', e'⟩ := a.live b x
      exact ⟨o', e b o' e'⟩
  · rcases x with rfl | x
    · exact zp
    · exact a.zf b x
  · refine a.st.trans (Stp.newA hp fun b x => ?_)
    rcases x with x | rfl | x
    · exact .inl (.inl x)
    · exact .inr rfl
    · exact .inl (.inr x)
theorem Ox.ls (a : Ox C σ H Z env F P q H1 Z1 env1 F1 U) {vs : List V} {ts : List T} (o : OwnL C false H1 Z1 vs ts U) {p : Addr} (hp : H1 p = none) (hq : q' = true → False) :
    Ox C σ H Z env F P q' (upd H1 p (.lst vs)) Z1 env1 F1 (fun b => b = p ∨ U b) ∧ Own C false (upd H1 p (.lst vs)) Z1 (.ref p) (.ls ts) (fun b => b = p ∨ U b) := by
  obtain ⟨x, np⟩ := a.into (o := .lst vs) hp hq
  refine ⟨x, .ls (.inl upd_same) (o.keep (Same.refl Z1) fun b y ob e => ?_) np fun b => Iff.rfl⟩
  rw [upd_ne (fun z => by subst z; exact np y)]
  exact e
end
theorem Rel.unP {C : Ct} {σ : Sto} {H Z : Hp} {env : Env} {F : Nat → FS} {P : List (Nat × V)} (R : Rel C σ H Z env F P) : Rel C σ H Z env F [] := ⟨R.len, R.slot, R.out, R.dj, R.az, R.sub, R.al, fun q hq => by cases hq⟩
theorem Rel.reP {C : Ct} {σ : Sto} {H Z H' Z' : Hp} {env env' : Env} {F F' : Nat → FS} {P P' : List (Nat × V)} (R : Rel C σ H Z env F P') (R0 : Rel C σ H' Z' env' F' P) : Rel C σ H Z env F P := ⟨R.len, R.slot, R.out, R.dj, R.az, R.sub, R.al, R0.pr⟩
/-- a tree leaves its name -/
theorem Rel.mvSlot {C : Ct} {σ : Sto} {H Z : Hp} {env : Env} {F : Nat → FS} {P : List (Nat × V)} (R : Rel C σ H Z env F P) {i : Nat} {t : T} (ht : ownT env i = some t) :
    ∃ v F' U, σ[i]? = some (some v) ∧ Own C false H Z v t U ∧ Ox C σ H Z env F P false H Z (setV env i .no) F' U := by
  obtain ⟨v, hv, o, io⟩ := R.rootOwn ht
  obtain ⟨t1, ei⟩ := io
  have hi : i < env.length := (List.getElem?_eq_some_iff.mp ei).1
  have R0 : Rel C σ H Z (setV env i .no) (upF F i fun _ => False) [] := by
    have := R.unP.setSlot (i := i) (v := v) (s := .no) (U := fun _ => False) hi (fun _ x => x) (fun _ _ _ x => x.elim) (fun _ z => by cases z) (fun _ _ z => by cases z) (fun q hq => by cases hq)
    rw [set_same hv] at this
    exact this
  have sub : ∀ j b, upF F i (fun _ => False) j b → j ≠ i ∧ F j b := fun j b x => by
    unfold upF at x
    split at x
    · exact x.elim
    · exact ⟨by assumption, x⟩
  have af : ∀ b, Af (setV env i .no) (upF F i fun _ => False) b → Af env F b := fun b x => (af_setV b x).elim id False.elim
  refine ⟨v, _, F i, hv, o, ⟨R0.reP R, ⟨Same.refl Z, fun _ _ h _ => h, fun b x => .inl (af b x), fun _ _ h => .inl h⟩, fun j b x => .inl ⟨j, (sub j b x).2⟩, fun j t0 => ?_⟩, fun b x => R.live x, fun j b x y => ?_, fun b x => R.az i b ⟨t1, ei⟩ x, ⟨Same.refl Z, fun _ _ h _ => h, fun b x => ?_, fun _ _ h => .inl h⟩, fun z => by cases z⟩
  · by_cases h : j = i
    · subst h
      rw [setV_get, if_pos rfl, if_pos hi, ei]
      exact ⟨⟨fun q => (by cases q), fun q => (by cases q)⟩, fun q => (by cases q)⟩
    · rw [setV_get, if_neg h]
      refine ⟨?_, fun _ => by simp only [upF, if_neg h]⟩
      cases q : env[j]? with
      | none => simp
      | some s0 => simp only [Option.map_some, Option.some.injEq, dropAl_ro]
  · obtain ⟨n, y⟩ := sub j b y
    exact R.dj i j b (Ne.symm n) ⟨t1, ei⟩ x y
  · rcases x with x | x
    · exact .inl (af b x)
    · exact .inl ⟨i, ⟨t1, ei⟩, x⟩
section
variable {G : Gl}
theorem sd_ofz {a : E} (ha : SdE G a) : SdO G (.ofz a) := by
  intro N sc e hc X W k cx tk gk σ H Z env F P R nb rx Q ok
  simp only [chkO, Bool.and_eq_true] at hc
  simp only [evO] at nb rx ok
  refine ha N sc e hc.1 X W k cx tk gk σ H Z env F P R (bind_nb nb) (rx.next (Nx.refl R) fun z env' h => bind_rx h) _ fun d env1 h1 v H1 Z1 F1 n1 q1 d1 => ?_
  rw [h1] at nb ok
  simp only [bind_ok] at nb ok
  exact ok _ env1 rfl v H1 Z1 F1 _ (Ox.nil n1 q1) (.fz (d1.2 hc.2) fun _ x => x)
theorem sd_mv (i : Nat) : SdO G (.mv i) := by
  intro N sc e hc X W k cx tk gk σ H Z env F P R nb rx Q ok
  have sh : ∃ x pos, e = .Name x pos := by
    unfold chkO at hc
    split at hc <;> first | contradiction | exact ⟨_, _, rfl⟩
  obtain ⟨x, pos, rfl⟩ := sh
  simp only [chkO] at hc
  refine wE_of (nameB_pe cx hc) ?_
  simp only [evO] at nb ok
  cases ht : ownT env i with
  | none => rw [ht] at nb; exact absurd rfl nb
  | some t =>
    rw [ht] at nb ok
    simp only at ok
    obtain ⟨v, F', U, hv, o, x⟩ := R.mvSlot ht
    exact ⟨v, hv, ok t _ rfl v H Z F' U x o⟩
theorem sd_nilO : SdOs G .nil := by
  intro N sc es hc X W k cx tk gk σ H Z env F P R nb rx Q ok
  cases es with
  | nil => exact wA_of pa_nil (ok [] env rfl [] H Z F _ (Ox.nil (Nx.refl R) fun _ => ⟨Same.refl H, rfl, rfl⟩) (.nil fun _ x => x))
  | cons x xs => simp [chkOs] at hc
theorem sd_consO {a r : E} (ha : SdO G a) (hr : SdOs G r) : SdOs G (.cons a r) := by
  intro N sc es hc X W k cx tk gk σ H Z env F P R nb rx Q ok
  cases es with
  | nil => simp [chkOs] at hc
  | cons x xs =>
    simp only [chkOs, Bool.and_eq_true] at hc
    obtain ⟨⟨ca, cr⟩, hp⟩ := hc
    simp only [evOs] at nb rx ok
    refine wA_of (pa_cons pe_w pa_w (plS_star hp)) ?_
    refine ha N sc x ca X W k cx tk gk σ H Z env F P R (bind_nb nb) (rx.next (Nx.refl R) fun z env' h => bind_rx h) _ fun t env1 h1 v H1 Z1 F1 U1 x1 o1 => ?_
    rw [h1] at nb ok rx
    simp only [bind_ok] at nb ok rx
    refine hr N sc xs cr X W k cx tk gk σ H1 Z1 env1 F1 P x1.n.rel (bind_nb nb) (rx.next x1.n fun z env' h => bind_rx h) _ fun ts env2 h2 vs H2 Z2 F2 U2 x2 o2 => ?_
    rw [h2] at ok
    simp only [bind_ok] at ok
    obtain ⟨xx, dj⟩ := x1.two x2
    exact ok (t :: ts) env2 rfl (v :: vs) H2 Z2 F2 _ xx (.cons (x2.st.own o1 x1.ap.af) o2 dj fun b => Iff.rfl)
theorem sd_olst {es : E} (ha : SdOs G es) : SdO G (.olst es) := by
  intro N sc e hc X W k cx tk gk σ H Z env F P R nb rx Q ok
  have sh : ∃ xs pos, e = .List xs pos := by
    unfold chkO at hc
    split at hc <;> first | contradiction | exact ⟨_, _, rfl⟩
  obtain ⟨xs, pos, rfl⟩ := sh
  simp only [chkO] at hc
  simp only [evO] at nb rx ok
  refine wE_of (pe_lst pa_w) ?_
  refine ha N sc xs hc X W k cx tk gk σ H Z env F P R (bind_nb nb) (rx.next (Nx.refl R) fun z env' h => bind_rx h) _ fun ts env1 h1 vs H1 Z1 F1 U1 x1 o1 => ?_
  rw [h1] at nb ok
  simp only [bind_ok] at nb ok
  split at nb
  · rename_i hz
    rw [if_pos hz] at ok
    refine ⟨by rw [o1.len]; exact hz, fun p hp => ?_⟩
    obtain ⟨xx, oo⟩ := x1.ls (q' := quiet (.olst es)) o1 hp (fun z => by simp [quiet] at z)
    exact ok _ env1 rfl _ _ Z1 F1 _ xx oo
  · exact absurd rfl nb
theorem sd_olist {a : E} (ha : SdE G a) : SdO G (.olist a) := by
  intro N sc e hc X W k cx tk gk σ H Z env F P R nb rx Q ok
  have sh : ∃ x p y pos, e = .Call (.Name x p) [y] [] pos := by
    unfold chkO at hc
    split at hc <;> first | contradiction | exact ⟨_, _, _, _, rfl⟩ | exact ⟨_, _, _, _, by assumption⟩
  obtain ⟨x, p, y, pos, rfl⟩ := sh
  simp only [chkO, Bool.and_eq_true, decide_eq_true_eq] at hc
  obtain ⟨⟨⟨⟨rfl, hg⟩, ca⟩, sa⟩, ps⟩ := hc
  simp only [evO] at nb rx ok
  refine wE_of (pe_callTy call_list_of (globB_range cx rfl hg) (gk.bi .list) rfl (pa_cons pe_w pa_nil (plS_star ps)) (by decide) (by decide) (plS_star ps) rfl) ?_
  refine ha N sc y ca X W k cx tk gk σ H Z env F P R (bind_nb nb) (rx.next (Nx.refl R) fun z env' h => bind_rx h) _ fun d env1 h1 v H1 Z1 F1 n1 q1 d1 => ?_
  rw [h1] at nb ok
  simp only [bind_ok] at nb ok
  have fin : ∀ (ys : List V) (ds : List PyData) (l : Addr), DzAll X.K Z1 ys ds → H1 l = none → evO G (.olist a) env = .ok (.ls (ds.map .fz)) env1 → Q (.ref l) (upd H1 l (.lst ys)) := fun ys ds l dz hl e => by
    obtain ⟨xx, oo⟩ := (Ox.nil (q := false) n1 fun z => by cases z).ls (q' := quiet (.olist a)) (OwnL.fzs (C := ctOf X) (H := H1) (U := fun _ => False) (fun _ x => x) dz) hl (fun z => by simp [quiet] at z)
    refine ok _ env1 ?_ _ _ Z1 F1 _ xx oo
    simp only [evO, h1, bind_ok] at e
    exact e
  cases d with
  | list ds =>
    cases d1.2 sa with
    | @lst b ys _ r1 z1 =>
      exact ⟨b, ys, rfl, .inl (.inl (rd_same n1.rel.sub r1)), fun l hl => fin ys ds l z1 hl (by simp only [evO, h1, bind_ok])⟩
  | tuple ds =>
    cases d1.2 sa with
    | @tup b ys _ r1 z1 =>
      exact ⟨b, ys, rfl, .inr (sqT_same n1.rel.sub r1), fun l hl => fin ys ds l z1 hl (by simp only [evO, h1, bind_ok])⟩
  | _ => exact absurd rfl nb
theorem sd_orange {a : E} (ha : SdE G a) : SdO G (.orange a) := by
  intro N sc e hc X W k cx tk gk σ H Z env F P R nb rx Q ok
  have sh : ∃ x p y p' z pos' pos, e = .Call (.Name x p) [.Call (.Name y p') [z] [] pos'] [] pos := by
    unfold chkO at hc
    split at hc <;> first | contradiction | exact ⟨_, _, _, _, _, _, _, rfl⟩
  obtain ⟨x, p, y, p', z, pos', pos, rfl⟩ := sh
  simp only [chkO, Bool.and_eq_true, decide_eq_true_eq] at hc
  obtain ⟨⟨⟨⟨⟨rfl, hg⟩, rfl⟩, hg'⟩, ca⟩, ps⟩ := hc
  simp only [evO] at nb rx ok
  refine wE_of (pe_listRg cx.calm (globB_range cx rfl hg) (gk.bi .list) (prg_1 (globB_range cx rfl hg') gk.rg.1 pe_w (plS_star ps)) rfl) ?_
  refine ha N sc z ca X W k cx tk gk σ H Z env F P R (bind_nb nb) (rx.next (Nx.refl R) fun z env' h => bind_rx h) _ fun d env1 h1 v H1 Z1 F1 n1 q1 d1 => ?_
  rw [h1] at nb ok
  simp only [bind_ok] at nb ok
  cases d with
  | int j =>
    simp only [intD] at nb ok
    have ev := d1.1.int
    subst ev
    refine ⟨j, rfl, ?_⟩
    cases hr : rng2D 0 j with
    | none => rw [hr] at nb; exact absurd rfl nb
    | some ds =>
      rw [hr] at nb ok
      simp only at nb ok
      split at nb
      · rename_i hz
        rw [if_pos hz] at ok
        unfold rng2D at hr
        split at hr
        · rename_i hb
          have e := Option.some.inj hr
          subst e
          refine ⟨⟨hb.1, hb.2.1, hb.2.2.1, hb.2.2.2, by simpa [upR] using hz⟩, fun p hp => ?_⟩
          have dz : DzAll X.K Z1 (rgV 0 j) (upR 0 (j - 0).toNat) := dpAll_map fun i _ => .int _
          obtain ⟨xx, oo⟩ := (Ox.nil (q := false) n1 fun z => by cases z).ls (q' := quiet (.orange a)) (OwnL.fzs (C := ctOf X) (H := H1) (U := fun _ => False) (fun _ x => x) dz) hp (fun z => by simp [quiet] at z)
          exact ok _ env1 rfl _ _ Z1 F1 _ xx oo
        · cases hr
      · exact absurd rfl nb
  | _ => exact absurd rfl nb
theorem sd_ofr {o : E} (ho : SdO G o) : SdE G (.ofr o) := by
  intro N sc e hc X W k cx tk gk σ H Z env F P R nb rx Q ok
  have hc : chkO N sc o e = true := hc
  simp only [evE] at nb rx ok
  refine ho N sc e hc X W k cx tk gk σ H Z env F P R (bind_nb nb) (rx.next (Nx.refl R) fun z env' h => bind_rx h) _ fun t env1 h1 v H1 Z1 F1 U1 x1 o1 => ?_
  rw [h1] at nb ok
  simp only [bind_ok] at nb ok
  obtain ⟨d, hd⟩ := ofO_nb nb
  obtain ⟨Z', R1, zz, zf, zo⟩ := x1.n.rel.frz x1.live x1.ap
  have dz : Dz X.K Z' v d := o1.freeze hd zz zf
  refine ok d env1 (ofO_ok hd) v H1 Z' F1 ⟨R1, ⟨x1.n.stp.zz.trans zz, x1.n.stp.keep, x1.n.stp.new, fun b o e => ?_⟩, x1.n.all, x1.n.rok⟩ (fun z => by simp [quiet] at z) ⟨.inl dz, fun _ => dz⟩
  rcases zo b o e with q | q
  · exact x1.n.stp.nz b o q
  · rcases x1.st.new b (.inr q) with y | y
    · exact .inr (.inl y)
    · exact .inr (.inr y)
end
end Mp

end
section
set_option Elab.async false
set_option linter.all false
set_option maxRecDepth 100000
set_option autoImplicit false
/-! MiniPy, part R: comprehensions. -/
namespace Mp
open PySem PySem.Spec PyProof.Rows L2

theorem wipe_get {σ : Sto} {i : Nat} : ∀ {vs : List Nat}, i ∉ vs → (wipe σ vs)[i]? = σ[i]?
  | [], _ => rfl
  | v :: vs, h => by
    simp only [List.mem_cons, not_or] at h
    unfold wipe
    rw [List.getElem?_set_ne (Ne.symm h.1)]
    exact wipe_get h.2
theorem wipe_in {σ : Sto} {i : Nat} : ∀ {vs : List Nat}, i ∈ vs → (wipe σ vs)[i]? = if i < σ.length then some none else none
  | v :: vs, h => by
    unfold wipe
    by_cases e : v = i
    · subst e
      by_cases q : v < σ.length
      · rw [if_pos q, List.getElem?_set_self (by rw [wipe_length]; exact q)]
      · rw [if_neg q]
        exact List.getElem?_eq_none_iff.mpr (by rw [List.length_set, wipe_length]; omega)
    · rw [List.getElem?_set_ne e]
      rcases List.mem_cons.mp h with h | h
      · exact absurd h.symm e
      · exact wipe_in h
theorem wipe_ext {σ σ' : Sto} {vs : List Nat} (l : σ'.length = σ.length) (h : ∀ i, i ∉ vs → σ'[i]? = σ[i]?) : wipe σ' vs = wipe σ vs := by
  apply List.ext_getElem?
  intro i
  by_cases q : i ∈ vs
  · rw [wipe_in q, wipe_in q, l]
  · rw [wipe_get q, wipe_get q, h i q]

section
variable {C : Ct} {σ σ' : Sto} {H Z H' Z' : Hp} {env env' : Env} {F F' : Nat → FS} {P : List (Nat × V)}
theorem Rel.unset (R : Rel C σ H Z env F []) {i : Nat} (hi : i < env.length) (hF : ∀ b, ¬ F i b) : Rel C (σ.set i none) H Z (setV env i .no) F [] := by
  have hl : i < σ.length := by rw [R.len]; exact hi
  refine ⟨by simp [setV, R.len], fun j u e => ?_, fun j e b x => ?_, fun j k b n ho x y => ?_, fun j b ho x => ?_, R.sub, fun j r p e => ?_, fun q hq => by cases hq⟩
  · rw [setV_get] at e
    by_cases h : j = i
    · subst h
      rw [if_pos rfl, if_pos hi] at e
      cases e
      exact ⟨none, getElem_set_eq hl, hF⟩
    · rw [if_neg h] at e
      cases q : env[j]? with
      | none => rw [q] at e; simp at e
      | some s0 =>
        rw [q] at e
        simp only [Option.map_some, Option.some.injEq] at e
        obtain ⟨x, e1, o⟩ := R.slot j s0 q
        refine ⟨x, by rw [List.getElem?_set_ne (Ne.symm h)]; exact e1, ?_⟩
        subst e
        cases s0 with
        | al r p =>
          simp only [dropAl]
          split
          · exact o.2
          · exact o
        | no => exact o
        | own t => exact o
        | ro t => exact o
  · rw [setV_get] at e
    by_cases h : j = i
    · rw [if_pos h, if_pos hi] at e; cases e
    · rw [if_neg h] at e
      exact R.out j (by simpa using e) b x
  · by_cases h : j = i
    · subst h; exact hF b x
    · exact R.dj j k b n ((isOwn_setV h).mp ho) x y
  · by_cases h : j = i
    · subst h; exact absurd x (hF b)
    · exact R.az j b ((isOwn_setV h).mp ho) x
  · rw [setV_get] at e
    by_cases h : j = i
    · rw [if_pos h, if_pos hi] at e; cases e
    · rw [if_neg h] at e
      cases q : env[j]? with
      | none => rw [q] at e; simp at e
      | some s0 =>
        rw [q] at e
        simp only [Option.map_some, Option.some.injEq] at e
        cases s0 with
        | al r' p' =>
          simp only [dropAl] at e
          split at e
          · cases e
          · rename_i n
            injection e with e1 e2
            subst e1; subst e2
            obtain ⟨v', w, a1, a2, a3, a4, a5⟩ := R.al j r' p' q
            exact ⟨v', w, by rw [List.getElem?_set_ne (Ne.symm h)]; exact a1, by rw [List.getElem?_set_ne (Ne.symm n)]; exact a2, a3, by rw [readP_setV n]; exact a4, a5⟩
        | no => simp [dropAl] at e
        | own t => simp [dropAl] at e
        | ro t => simp [dropAl] at e
/-- a block's own names are forgotten -/
theorem Rel.wipe : ∀ {own : List (Str × Nat)} {env env' : Env}, Rel C σ H Z env F [] → wipeE env own = some env' → Rel C (L2.wipe σ (own.map (·.2))) H Z env' F [] ∧ (∀ j, IsOwn env' j → IsOwn env j) ∧ (∀ (j : Nat) t, env[j]? = some (Sl.ro t) ↔ env'[j]? = some (Sl.ro t)) ∧ (∀ i ∈ own.map (·.2), env'[i]? = some .no) ∧ ∀ i ∈ own.map (·.2), ∀ t, env[i]? ≠ some (Sl.ro t)
  | [], env, env', R, h => by
    simp only [wipeE, Option.some.injEq] at h
    subst h
    exact ⟨R, fun _ x => x, fun _ _ => Iff.rfl, fun i hi => by simp at hi, fun i hi => by simp at hi⟩
  | (x, i) :: r, env, env', R, h => by
    simp only [wipeE] at h
    cases q : wipeE env r with
    | none => rw [q] at h; cases h
    | some e =>
      rw [q] at h
      simp only at h
      obtain ⟨R1, own1, ro1, no1, nr1⟩ := Rel.wipe R q
      have fin : i < e.length → (∀ b, ¬ F i b) → (∀ t, e[i]? ≠ some (Sl.ro t)) → env' = setV e i .no → Rel C (L2.wipe σ (((x, i) :: r).map (·.2))) H Z env' F [] ∧ (∀ j, IsOwn env' j → IsOwn env j) ∧ (∀ (j : Nat) t, env[j]? = some (Sl.ro t) ↔ env'[j]? = some (Sl.ro t)) ∧ (∀ k ∈ ((x, i) :: r).map (·.2), env'[k]? = some .no) ∧ ∀ k ∈ ((x, i) :: r).map (·.2), ∀ t, env[k]? ≠ some (Sl.ro t) := fun hi hF hr e' => by
        subst e'
        refine ⟨R1.unset hi hF, fun j ho => ?_, fun j t => ?_, fun j hj => ?_, fun j hj t => ?_⟩
        · by_cases q : j = i
          · subst q
            obtain ⟨t, et⟩ := ho
            rw [setV_get, if_pos rfl, if_pos hi] at et
            cases et
          · exact own1 j ((isOwn_setV q).mp ho)
        · rw [ro1 j t, setV_get]
          by_cases q : j = i
          · subst q
            rw [if_pos rfl, if_pos hi]
            exact ⟨fun z => absurd z (hr t), fun z => by cases z⟩
          · rw [if_neg q]
            cases e2 : e[j]? with
            | none => simp
            | some s => simp only [Option.map_some, Option.some.injEq, dropAl_ro]
        · rw [setV_get]
          by_cases q : j = i
          · rw [if_pos q, if_pos hi]
          · rw [if_neg q]
            simp only [List.map_cons, List.mem_cons] at hj
            rw [no1 j (hj.resolve_left q)]
            rfl
        · by_cases q : j = i
          · subst q
            exact fun z => hr t ((ro1 j t).mp z)
          · simp only [List.map_cons, List.mem_cons] at hj
            exact nr1 j (hj.resolve_left q) t
      split at h
      · rename_i e1
        obtain ⟨_, _, so⟩ := R1.slot i _ e1
        exact fin (List.getElem?_eq_some_iff.mp e1).1 so (fun t z => by rw [e1] at z; cases z) (Option.some.inj h).symm
      · rename_i d e1
        obtain ⟨_, _, v, _, so⟩ := R1.slot i _ e1
        cases so with
        | fz _ s2 => exact fin (List.getElem?_eq_some_iff.mp e1).1 s2 (fun t z => by rw [e1] at z; cases z) (Option.some.inj h).symm
      · cases h
theorem backE_len {env0 env : Env} : ∀ {own : List (Str × Nat)}, (backE env0 env own).length = env.length
  | [] => rfl
  | (_, i) :: r => by simp only [backE, List.length_set]; exact backE_len
def backS (env0 : Env) (i : Nat) : Sl := match env0[i]? with
  | some (.own (.fz d)) => .own (.fz d)
  | _ => .no
theorem backE_get {env0 env : Env} {j : Nat} : ∀ {own : List (Str × Nat)}, (backE env0 env own)[j]? = if j ∈ own.map (·.2) then (if j < env.length then some (backS env0 j) else none) else env[j]?
  | [] => by simp [backE]
  | (x, i) :: r => by
    simp only [backE, List.map_cons, List.mem_cons]
    by_cases q : j = i
    · subst q
      rw [if_pos (.inl rfl)]
      by_cases l : j < env.length
      · rw [if_pos l, List.getElem?_set_self (by rw [backE_len]; exact l)]
        rfl
      · rw [if_neg l]
        exact List.getElem?_eq_none_iff.mpr (by rw [List.length_set, backE_len]; omega)
    · rw [List.getElem?_set_ne (Ne.symm q), backE_get (own := r)]
      simp only [q, false_or]
/-- behind the block: they are what they were -/
theorem Rel.back {own : List (Str × Nat)} {env0 : Env} {F0 : Nat → FS} (R0 : Rel C σ H Z env0 F0 P) (R : Rel C (L2.wipe σ (own.map (·.2))) H' Z' env' F' []) (zz : Same Z Z') (no : ∀ i ∈ own.map (·.2), env'[i]? = some .no) : Rel C σ H' Z' (backE env0 env' own) F' P := by
  have len : σ.length = env'.length := by rw [← R.len, wipe_length]
  have hF : ∀ i ∈ own.map (·.2), ∀ b, ¬ F' i b := fun i hi => by
    obtain ⟨_, _, so⟩ := R.slot i _ (no i hi)
    exact so
  have ho' : ∀ j b, IsOwn (backE env0 env' own) j → F' j b → IsOwn env' j := fun j b ⟨t, e⟩ x => by
    rw [backE_get] at e
    by_cases q : j ∈ own.map (·.2)
    · exact absurd x (hF j q b)
    · rw [if_neg q] at e
      exact ⟨t, e⟩
  refine ⟨by rw [backE_len]; exact len, fun j s e => ?_, fun j e b x => ?_, fun j k b n ho x => R.dj j k b n (ho' j b ho x) x, fun j b ho x => R.az j b (ho' j b ho x) x, R.sub, fun j r p e => ?_, R0.pr⟩
  · rw [backE_get] at e
    by_cases q : j ∈ own.map (·.2)
    · rw [if_pos q] at e
      split at e
      · have e := Option.some.inj e
        rename_i l
        subst e
        unfold backS
        split
        · rename_i d e1
          obtain ⟨x, e2, v, e3, o⟩ := R0.slot j _ e1
          refine ⟨x, e2, v, e3, ?_⟩
          cases o with
          | fz o1 _ => exact .fz (dp_same zz o1) (hF j q)
        · exact ⟨σ[j]'(by omega), List.getElem?_eq_getElem (by omega), hF j q⟩
      · cases e
    · rw [if_neg q] at e
      obtain ⟨x, e2, o⟩ := R.slot j s e
      rw [wipe_get q] at e2
      exact ⟨x, e2, o⟩
  · rw [backE_get] at e
    by_cases q : j ∈ own.map (·.2)
    · exact hF j q b x
    · rw [if_neg q] at e
      exact R.out j e b x
  · rw [backE_get] at e
    by_cases q : j ∈ own.map (·.2)
    · rw [if_pos q] at e
      split at e
      · unfold backS at e
        split at e <;> cases e
      · cases e
    · rw [if_neg q] at e
      obtain ⟨v, w, a, b, c, d, f⟩ := R.al j r p e
      obtain ⟨b1, b2⟩ := wipe_some b
      refine ⟨v, w, (wipe_some a).1, b1, c, ?_, f⟩
      have er : rootT (backE env0 env' own) r = rootT env' r := by
        unfold rootT
        rw [backE_get, if_neg b2]
      unfold readP at d ⊢
      rw [er]
      exact d
theorem Rel.other (R : Rel C σ H Z env F P) {p : Addr} {o : HO} (hF : ∀ j, ¬ F j p) (hz : Z p = none) : Rel C σ (upd H p o) Z env F P := by
  have kp : ∀ j b u, F j b → H b = some u → upd H p o b = some u := fun j b u x e => by
    rw [upd_ne (fun z => by subst z; exact hF j x)]
    exact e
  refine ⟨R.len, fun i s es => ?_, R.out, R.dj, R.az, fun b u e => ?_, fun i r q ea => ?_, R.pr⟩
  · obtain ⟨x, e1, q⟩ := R.slot i s es
    refine ⟨x, e1, ?_⟩
    cases s with
    | no => exact q
    | own t => obtain ⟨v, a, w⟩ := q; exact ⟨v, a, w.keep (Same.refl Z) fun b x u e => kp i b u x e⟩
    | ro t => obtain ⟨v, a, w⟩ := q; exact ⟨v, a, w.keep (Same.refl Z) fun b x u e => kp i b u x e⟩
    | al r p => exact q
  · rw [upd_ne (fun z => by subst z; rw [hz] at e; cases e)]
    exact R.sub b u e
  · obtain ⟨v, w, a, b, c, d, f⟩ := R.al i r q ea
    refine ⟨v, w, a, b, ?_, d, f⟩
    unfold readP at d
    cases e : rootT env r with
    | none => rw [e] at d; simp at d
    | some t =>
      rw [e] at d
      simp only [Option.bind_some] at d
      obtain ⟨w', e1, o1⟩ := R.rootAny e
      rw [b] at e1
      have := Option.some.inj (Option.some.inj e1)
      subst this
      exact c.own o1 d fun b u x e => kp r b u x e
end
end Mp

end
section
set_option Elab.async false
set_option linter.all false
set_option maxRecDepth 100000
set_option autoImplicit false
/-! MiniPy, part S: comprehensions are sound. -/
namespace Mp
open PySem PySem.Spec PyProof.Rows L2

section
variable {C : Ct} {σ σ2 : Sto} {H Z H1 Z1 H2 Z2 : Hp} {env env1 env2 : Env} {F F1 F2 : Nat → FS} {P P2 : List (Nat × V)} {U U' : FS} {q : Bool}
theorem Ox.re (a : Ox C σ H Z env F P q H1 Z1 env1 F1 U) (R2 : Rel C σ2 H1 Z1 env2 F2 P2) (sub : ∀ j b, F2 j b → F1 j b) (own : ∀ b, Af env2 F2 b → Af env1 F1 b) (rok : ∀ (i : Nat) t, (env1[i]? = some (Sl.ro t) ↔ env2[i]? = some (Sl.ro t)) ∧ (env1[i]? = some (Sl.ro t) → F2 i = F1 i)) :
    Ox C σ2 H Z env F P2 false H1 Z1 env2 F2 U :=
  ⟨⟨R2, a.n.stp.mono (fun _ x => x) (fun b x => .inl (own b x)), fun j b x => a.n.all j b (sub j b x), fun i t => ⟨(a.n.rok i t).1.trans (rok i t).1, fun h => ((rok i t).2 ((a.n.rok i t).1.mp h)).trans ((a.n.rok i t).2 h)⟩⟩,
    a.live, fun j b x y => a.ap j b x (sub j b y), a.zf, a.st.mono (fun _ x => x) (fun b x => .inl (x.elim (fun y => .inl (own b y)) .inr)), fun z => by cases z⟩
/-- the held object p is written -/
theorem Ox.put (a : Ox C σ H Z env F P q H1 Z1 env1 F1 U) {p : Addr} {o : HO} (hp : U p) : Ox C σ H Z env F P false (upd H1 p o) Z1 env1 F1 U := by
  have R' := a.n.rel.other (p := p) (o := o) (fun j => a.ap j p hp) (a.zf p hp)
  have s1 : Stp H Z (Af env F) (upd H1 p o) Z1 (fun b => Af env1 F1 b ∨ U b) := a.st.trans (Stp.wr (p := p) (.inr hp) fun _ x => x)
  refine ⟨⟨R', s1.mono (fun _ x => x) (fun b x => .inl (.inl x)), a.n.all, a.n.rok⟩, fun b x => ?_, a.ap, a.zf, s1, fun z => by cases z⟩
  by_cases e : b = p
  · subst e; exact ⟨_, upd_same⟩
  · rw [upd_ne e]; exact a.live b x
theorem Ox.ext (a : Ox C σ H Z env F P q H1 Z1 env1 F1 U) (e : ∀ b, U' b ↔ U b) : Ox C σ H Z env F P q H1 Z1 env1 F1 U' := by
  have : U' = U := funext fun b => propext (e b)
  subst this
  exact a
theorem Ox.unlk {m : E} {H' Z' : Hp} {env' : Env} {F' : Nat → FS} (R : Rel C σ H Z env F P) (lkOk : ∀ i, m = .lkv i → ∃ t, env[i]? = some (Sl.own t)) (a : Ox C σ H Z (lk m env) F P q H' Z' env' F' U) : Ox C σ H Z env F P false H' Z' (unlk m env') F' U := by
  have n := a.n.unlk R lkOk fun _ _ => rfl
  have sa : ∀ b, Af (lk m env) F b → Af env F b := fun b ⟨j, ⟨t0, e⟩, y⟩ => by
    cases m with
    | lkv i =>
      obtain ⟨t, h⟩ := lkOk i rfl
      simp only [Mp.lk, h] at e
      by_cases q : j = i
      · subst q
        rw [List.getElem?_set_self (List.getElem?_eq_some_iff.mp h).1] at e
        cases e
      · rw [getElem_set_ne' q] at e
        exact ⟨j, ⟨t0, e⟩, y⟩
    | _ => exact ⟨j, ⟨t0, e⟩, y⟩
  refine ⟨n, a.live, a.ap, a.zf, ⟨n.stp.zz, fun b o e x => a.st.keep b o e fun y => x (sa b y), fun b x => ?_, fun b o e => ?_⟩, fun z => by cases z⟩
  · rcases x with x | x
    · exact n.stp.new b x
    · exact (a.st.new b (.inr x)).imp (sa b) id
  · exact (a.st.nz b o e).imp id fun y => y.imp (sa b) id
end
theorem lk_ok {G : Gl} {m : E} {env env1 : Env} {ds : List PyData} (h : evI G m env = .ok ds env1) : ∀ i, m = .lkv i → ∃ t, env1[i]? = some (Sl.own t) := by
  intro i e
  subst e
  simp only [evI] at h
  split at h
  · rename_i ts e
    split at h
    · cases h; exact ⟨_, e⟩
    · cases h
  · cases h

section
variable {X : Cx}
/-- the block of a comprehension -/
abbrev blkX (X : Cx) (scope : Scope) (s : Shared) (H : Hp) (c : Addr) (cl : List (Str × Addr)) (fp : List Addr) : Cx := X.blk s H scope (compEnvC scope cl c X.env) fp
theorem blk_ok {N : List Str} {sc : Scope} {k : Nat} (cx : CxOk N sc k X) (scope : Scope) (s : Shared) (H : Hp) (c : Addr) (cl : List (Str × Addr)) (fp : List Addr) : CxOk N (relS scope sc) k (blkX X scope s H c cl fp) where
  nm := cx.nm
  sc := by
    have e : (compEnvC scope cl c X.env).scope = relS scope X.env.scope := rfl
    rw [cx.sc] at e
    exact e
  nd := cx.nd
  calm := cx.calm
  room := cx.room
  guards := cx.guards
  own := fun e s' h => False.elim h
def wNo : WX := fun _ _ _ _ => False
theorem blk_tk (scope : Scope) (s : Shared) (H : Hp) (c : Addr) (cl : List (Str × Addr)) (fp : List Addr) : Takes (blkX X scope s H c cl fp) wNo := fun u s' ⟨_, _, _, _, _, _, _, _, _, _, _, _, _, _, _, _, w⟩ => w
/-- read in any block of this scope -/
def tBlkE (X : Cx) (scope : Scope) (e : Expr) : TE := fun σ H Q => ∀ s H0 c cl fp, wE (blkX X scope s H0 c cl fp) e σ H Q
def tBlkT (X : Cx) (scope : Scope) (e : Expr) : TT := fun σ H Q => ∀ s H0 c cl fp, wT (blkX X scope s H0 c cl fp) e σ H Q
theorem pe_blk (scope : Scope) (e : Expr) (s : Shared) (H : Hp) (c : Addr) (cl : List (Str × Addr)) (fp : List Addr) : PE (blkX X scope s H c cl fp) e (tBlkE X scope e) := ⟨fun pins s' σ H' Q I h => h s H c cl fp pins s' I⟩
theorem pt_blk (scope : Scope) (e : Expr) (s : Shared) (H : Hp) (c : Addr) (cl : List (Str × Addr)) (fp : List Addr) : PT (blkX X scope s H c cl fp) e (tBlkT X scope e) := ⟨fun pins s' σ H' Q I h => h s H c cl fp pins s' I⟩
end

/-- the turn of a comprehension -/
def turnC (G : Gl) (own : List (Str × Nat)) (elt tg ifs : E) (x : PyData) (e : Env) : Res (Option T) := match wipeE e own with
  | none => .bad
  | some e0 => match bindT tg x e0 with
    | none => .bad
    | some e1 => (evT G ifs e1).bind fun k e2 => if k then (evO G elt e2).bind fun d e3 => .ok (some d) e3 else .ok none e2
theorem bind_inv {α β : Type} {r : Res α} {k : α → Env → Res β} {b : β} {env' : Env} (h : r.bind k = .ok b env') : ∃ a env1, r = .ok a env1 ∧ k a env1 = .ok b env' := by
  cases r with
  | ok a env1 => exact ⟨a, env1, rfl, h⟩
  | raise x e => cases h
  | bad => cases h
theorem calm_inv {α : Type} {r : Res α} {a : α} {env' : Env} (h : r.calm = .ok a env') : r = .ok a env' := by
  cases r with
  | ok b e => exact h
  | raise x e => cases h
  | bad => cases h
theorem rx_ok {C : Ct} {W : WX} {σ : Sto} {H Z : Hp} {env : Env} {F : Nat → FS} {P : List (Nat × V)} {α : Type} {r : Res α} {a : α} {env' : Env} (h : r = .ok a env') : Rx C W σ H Z env F P r := fun x env' e => by rw [h] at e; cases e
theorem nb_ok {α : Type} {r : Res α} {a : α} {env' : Env} (h : r = .ok a env') : r ≠ .bad := fun e => by rw [h] at e; cases e
section
variable {G : Gl}
/-- reads as the tree m -/
def ROk (G : Gl) (m : E) (X : Cx) (W : WX) (t : TE) : Prop := ∀ (σ : Sto) (H Z : Hp) (env : Env) (F : Nat → FS) (P : List (Nat × V)), Rel (ctOf X) σ H Z env F P → evO G m env ≠ .bad → Rx (ctOf X) W σ H Z env F P (evO G m env) →
  ∀ Q : VK, (∀ t env', evO G m env = .ok t env' → ∀ v H' Z' F' U, Ox (ctOf X) σ H Z env F P (quiet m) H' Z' env' F' U → Own (ctOf X) false H' Z' v t U → Q v H') → t σ H Q
theorem ocomp_t {own : List (Str × Nat)} {elt tg it ifs : E} (hi : SdI G it) (ht : SdT G ifs) (he : SdO G elt) {N : List Str} {sc : Scope} {elt' tg' it' : Expr} {ifs' : List Expr} {scope : Scope} {pos : Pos}
    (hc : chkO N sc (.ocomp own elt tg it ifs) (.ListComp elt' [⟨tg', it', ifs', 0⟩] scope pos) = true) {X : Cx} {W : WX} {k : Nat} (cx : CxOk N sc k X) (tk : Takes X W) (gk : GOk G (ctOf X) k) :
    ∃ (wi : TI) (g : TG) (tt : TT) (te : TE), PI X tg' it' wi ∧ (∀ s H c cl fp, PG (blkX X scope s H c cl fp) tg' g) ∧ (∀ s H c cl fp, PTs (blkX X scope s H c cl fp) ifs' tt) ∧ (∀ s H c cl fp, PE (blkX X scope s H c cl fp) elt' te) ∧
      (∀ x, foldedSetIterable it' X.env x = pure x) ∧ BlkOk X.N X.env.scope scope own ∧ ROk G (.ocomp own elt tg it ifs) X W (tLc wi g tt te (own.map (·.2))) := by
  simp only [chkO, Bool.and_eq_true] at hc
  obtain ⟨⟨⟨⟨⟨hb, ci⟩, cb⟩, hsub⟩, cif⟩, ce⟩ := hc
  obtain ⟨wi, hwi, hset, hrun⟩ := hi N sc it' ci X W k cx tk gk tg'
  -- the target, in every block alike
  have bk := blk_ok cx scope
  have tgs : ∀ (s : Shared) (H : Hp) (c : Addr) (cl : List (Str × Addr)) (fp : List Addr), ∃ g, PG (blkX X scope s H c cl fp) tg' g ∧ Bnd (blkX X scope s H c cl fp) tg g := fun s H c cl fp => chkB_pg (bk s H c cl fp) (fun x h => h) cb
  let g : TG := fun v σ H Q => ∀ s H0 c cl fp, (Classical.choose (tgs s H0 c cl fp)) v σ H Q
  have hg : ∀ s H c cl fp, PG (blkX X scope s H c cl fp) tg' g := fun s H c cl fp => ⟨fun pins s' σ H' v u Q I r h => (Classical.choose_spec (tgs s H c cl fp)).1.run pins s' σ H' v u Q I r (h s H c cl fp)⟩
  have hbnd : Bnd X tg g := fun σ H Z env F P v d env' R dz hb hP Q ok s H0 c cl fp => (Classical.choose_spec (tgs s H0 c cl fp)).2 σ H Z env F P v d env' R dz hb hP Q ok
  -- the tests
  have tts : ∃ tt : TT, (∀ s H c cl fp, PTs (blkX X scope s H c cl fp) ifs' tt) ∧ ∀ (σ : Sto) (H Z : Hp) (env : Env) (F : Nat → FS) (b : Bool) (env1 : Env), Rel (ctOf X) σ H Z env F [] → evT G ifs env = .ok b env1 → ∀ Q : Bool → Hp → Prop, (∀ H' Z' F', Nx (ctOf X) σ H Z env F [] H' Z' env1 F' → Q b H') → tt σ H Q := by
    clear hsub cb hwi
    match ifs', cif with
    | [], h =>
      refine ⟨tYes, fun _ _ _ _ _ => pts_nil, fun σ H Z env F b env1 R h1 Q ok => ?_⟩
      cases ifs with
      | nil =>
        simp only [evT, Res.ok.injEq] at h1
        obtain ⟨rfl, rfl⟩ := h1
        exact ok H Z F (Nx.refl R)
      | _ => simp [isNil, ifsB] at h
    | [c], h =>
      refine ⟨tBlkT X scope c, fun s H c' cl fp => pts_one (pt_blk scope c s H c' cl fp), fun σ H Z env F b env1 R h1 Q ok s H0 c' cl fp => ?_⟩
      refine (ht N (relS scope sc) c h (blkX X scope s H0 c' cl fp) wNo k (bk s H0 c' cl fp) (blk_tk scope s H0 c' cl fp) gk σ H Z env F [] R (nb_ok h1) (rx_ok h1) Q fun d env' h2 H' Z' F' n _ => ?_).1
      rw [h1] at h2
      simp only [Res.ok.injEq] at h2
      obtain ⟨rfl, rfl⟩ := h2
      exact ok H' Z' F' n
    | _ :: _ :: _, h => simp [ifsB] at h
  obtain ⟨tt, htt, hT⟩ := tts
  refine ⟨wi, g, tt, tBlkE X scope elt', hwi, hg, htt, pe_blk scope elt', hset, by rw [cx.nm, cx.sc]; exact blkOk_by hb, fun σ H Z env F P R nb rx Q ok => ?_⟩
  have evo : evO G (.ocomp own elt tg it ifs) env = (evI G it env).bind fun items env1 => (compL (turnC G own elt tg ifs) items (lk it env1)).calm.bind fun ys env3 => match wipeE (lk it env1) own, wipeE env3 own with
    | some _, some e4 => if ys.length ≤ sizeLine then .ok (.ls ys) (unlk it (backE (lk it env1) e4 own)) else .bad
    | _, _ => .bad := rfl
  rw [evo] at nb rx ok
  refine hrun σ H Z env F P R (bind_nb nb) (rx.next (Nx.refl R) fun z env' h => bind_rx h) _ fun items env1 h1 J H1 Z1 F1 n1 wk => ?_
  rw [h1] at nb ok
  simp only [bind_ok] at nb ok
  intro D hD
  -- how it ends
  have nb2 := bind_nb nb
  have hE : ∃ ys env3, compL (turnC G own elt tg ifs) items (lk it env1) = .ok ys env3 := by
    cases q : compL (turnC G own elt tg ifs) items (lk it env1) with
    | ok ys env3 => exact ⟨ys, env3, rfl⟩
    | raise x e => rw [q] at nb2; exact absurd rfl nb2
    | bad => rw [q] at nb2; exact absurd rfl nb2
  obtain ⟨ys, env3, hcl⟩ := hE
  rw [hcl] at nb ok
  simp only [calm_ok, bind_ok] at nb ok
  cases hw1 : wipeE (lk it env1) own with
  | none => rw [hw1] at nb; exact absurd rfl nb
  | some e0 =>
  cases hw3 : wipeE env3 own with
  | none => rw [hw1, hw3] at nb; exact absurd rfl nb
  | some e4 =>
  rw [hw1, hw3] at nb ok
  simp only at nb ok
  by_cases hz : ys.length ≤ sizeLine
  case neg => rw [if_neg hz] at nb; exact absurd rfl nb
  rw [if_pos hz] at ok
  have lko := lk_ok h1
  have R1 := n1.rel.lk it
  have vs_nr : ∀ i ∈ own.map (·.2), ∀ t, (lk it env1)[i]? ≠ some (Sl.ro t) := (R1.unP.wipe hw1).2.2.2.2
  let vs := own.map (·.2)
  -- the state at the start of a turn
  let Inv : Nat → Hp → Prop := fun i Hh => ∃ (σ' : Sto) (Zh : Hp) (e : Env) (Fh : Nat → FS) (accT : List T) (U : FS) (ys' : List T), L2.wipe σ' vs = L2.wipe σ vs ∧ σ'.length = σ.length ∧
    Ox (ctOf X) σ' H1 Z1 (lk it env1) F1 [] false Hh Zh e Fh U ∧ Own (ctOf X) false Hh Zh (.ref D) (.ls accT) U ∧ compL (turnC G own elt tg ifs) (items.drop i) e = .ok ys' env3 ∧ ys = accT ++ ys'
  refine ⟨fun i m Hh => m = items.length - i ∧ i ≤ items.length ∧ Inv i Hh, ⟨items.length, by simp, Nat.zero_le _, ?_⟩, ?_⟩
  · obtain ⟨xx, oo⟩ := (Ox.nil (q := false) (Nx.refl R1.unP) fun z => by cases z).ls (q' := false) (.nil (fun _ x => x)) hD (fun z => by cases z)
    exact ⟨σ, Z1, lk it env1, F1, [], _, ys, rfl, rfl, xx, oo, hcl, rfl⟩
  rintro i m Hh ⟨rfl, hi, σ', Zh, e, Fh, accT, U, ys', hw, hl, x, o, hcm, rfl⟩
  have same : ∀ j, j ∉ vs → σ'[j]? = σ[j]? := fun j hj => by
    have := congrArg (fun l => l[j]?) hw
    simp only [wipe_get hj] at this
    exact this
  obtain ⟨st, go⟩ := wk σ' Hh Zh e Fh [] x.n.rel x.n.stp.zz fun j t hj => ⟨(x.n.rok j t).1.mp hj, same j fun z => vs_nr j z t hj⟩
  by_cases hlt : i < items.length
  case neg =>
    have ei : i = items.length := by omega
    subst ei
    refine .inl ⟨st _ (Nat.le_refl _), ?_⟩
    rw [List.drop_length] at hcm
    simp only [compL, Res.ok.injEq] at hcm
    obtain ⟨rfl, rfl⟩ := hcm
    rw [List.append_nil] at ok
    obtain ⟨R4, own4, ro4, no4, _⟩ := x.n.rel.wipe hw3
    have R4' : Rel (ctOf X) (L2.wipe σ vs) Hh Zh e4 Fh [] := by rw [← hw]; exact R4
    have R5 := R1.back R4' x.n.stp.zz no4
    have hF : ∀ i ∈ vs, ∀ b, ¬ Fh i b := fun i hi => by
      obtain ⟨_, _, so⟩ := R4.slot i _ (no4 i hi)
      exact so
    have oth : ∀ j, j ∉ vs → (backE (lk it env1) e4 own)[j]? = e4[j]? := fun j hj => by rw [backE_get, if_neg hj]
    have y : Ox (ctOf X) σ H1 Z1 (lk it env1) F1 P false Hh Zh (backE (lk it env1) e4 own) Fh U := by
      refine x.re R5 (fun _ _ h => h) (fun b ⟨j, ⟨t, ej⟩, h⟩ => ?_) fun j t => ⟨?_, fun _ => rfl⟩
      · by_cases q : j ∈ vs
        · exact absurd h (hF j q b)
        · rw [oth j q] at ej
          exact ⟨j, own4 j ⟨t, ej⟩, h⟩
      · rw [ro4 j t]
        by_cases q : j ∈ vs
        · rw [no4 j q, backE_get, if_pos q]
          refine ⟨fun z => (by cases z), fun z => ?_⟩
          split at z
          · unfold backS at z
            split at z <;> cases z
          · cases z
        · rw [oth j q]
    have y2 := Ox.after (q' := false) n1 (y.unlk n1.rel lko) fun z => by cases z
    exact ok _ _ rfl _ Hh Zh Fh U ⟨y2.n, y2.live, y2.ap, y2.zf, y2.st, fun z => by simp [quiet] at z⟩ o
  case pos =>
  have hd : items[i]? = some items[i] := List.getElem?_eq_getElem hlt
  obtain ⟨jgo, jy⟩ := go i _ hd
  refine .inr ⟨jgo, fun H' => Inv (i + 1) H', fun H' p => ⟨items.length - (i + 1), by omega, rfl, by omega, p⟩, fun xv H' hy => ?_⟩
  obtain ⟨rfl, dz⟩ := jy _ _ hy
  rw [List.drop_eq_getElem_cons hlt] at hcm
  simp only [compL] at hcm
  obtain ⟨r1, e5, ht1, hcm⟩ := bind_inv hcm
  obtain ⟨ys2, e6, ht2, hcm⟩ := bind_inv hcm
  simp only [Res.ok.injEq] at hcm
  obtain ⟨hys, rfl⟩ := hcm
  unfold turnC at ht1
  cases hw4 : wipeE e own with
  | none => rw [hw4] at ht1; cases ht1
  | some e7 =>
  rw [hw4] at ht1
  simp only at ht1
  cases hb4 : bindT tg items[i] e7 with
  | none => rw [hb4] at ht1; cases ht1
  | some e8 =>
  rw [hb4] at ht1
  simp only at ht1
  obtain ⟨kk, e9, hk1, ht1⟩ := bind_inv ht1
  obtain ⟨R7, own7, ro7, no7, _⟩ := x.n.rel.wipe hw4
  have R7' : Rel (ctOf X) (L2.wipe σ vs) H' Zh e7 Fh [] := by rw [← hw]; exact R7
  refine hbnd _ _ _ _ _ _ _ _ _ R7' dz hb4 (fun q hq => by cases hq) _ fun σ2 F8 R8 m8 => ?_
  have x8 : Ox (ctOf X) σ2 H1 Z1 (lk it env1) F1 [] false H' Zh e8 F8 U := by
    refine x.re R8 (fun j b h => (m8.sub j b h).elim id False.elim) (fun b h => ?_) fun j t => ⟨(ro7 j t).trans (m8.rok j t).1, fun h => (m8.rok j t).2 ((ro7 j t).mp h)⟩
    obtain ⟨j, ho, h⟩ := (m8.own b h).elim id False.elim
    exact ⟨j, own7 j ho, h⟩
  have w2 : L2.wipe σ2 vs = L2.wipe σ vs := by
    rw [wipe_ext (σ := L2.wipe σ vs) m8.len fun j hj => m8.frm j fun z => ?_, wipe_ext (wipe_length σ vs) fun j hj => wipe_get hj]
    unfold sub1 at hsub
    rw [List.all_eq_true] at hsub
    exact hj (by have := hsub j z; rw [List.contains_iff_mem] at this; exact this)
  have l2 : σ2.length = σ.length := m8.len.trans (wipe_length _ _)
  refine ⟨w2, ?_⟩
  refine hT σ2 H' Zh e8 F8 kk e9 R8 hk1 _ fun H9 Z9 F9 n9 => ?_
  have x9 := x8.next (q' := false) n9 fun z => by cases z
  have o9 := n9.stp.own o x8.ap.af
  cases kk with
  | false =>
    simp only [Bool.false_eq_true, if_false] at ht1 ⊢
    simp only [Res.ok.injEq] at ht1
    obtain ⟨rfl, rfl⟩ := ht1
    exact ⟨σ2, Z9, e9, F9, accT, U, ys2, w2, l2, x9, o9, ht2, congrArg (accT ++ ·) (show ys' = ys2 from hys.symm)⟩
  | true =>
    simp only [if_true] at ht1 ⊢
    obtain ⟨t, e10, ho1, ht1⟩ := bind_inv ht1
    simp only [Res.ok.injEq] at ht1
    obtain ⟨rfl, rfl⟩ := ht1
    intro s H0 c cl fp
    refine he N (relS scope sc) elt' ce (blkX X scope s H0 c cl fp) wNo k (bk s H0 c cl fp) (blk_tk scope s H0 c cl fp) gk σ2 H9 Z9 e9 F9 [] n9.rel (nb_ok ho1) (rx_ok ho1) _ fun t' e11 ho2 v H10 Z10 F10 U10 x10 o10 => ?_
    rw [ho1] at ho2
    simp only [Res.ok.injEq] at ho2
    obtain ⟨rfl, rfl⟩ := ho2
    have o9' := x10.st.own o9 x9.ap.af
    obtain ⟨xx, dj⟩ := x9.two x10
    cases o9' with
    | @ls _ acc _ S _ p1 p2 p3 p4 =>
      have ud : U D := (p4 D).mpr (.inl rfl)
      have ln : acc.length < sizeLine := by
        rw [p2.len]
        have hys' : t :: ys2 = ys' := hys
        subst hys'
        simp only [List.length_append, List.length_cons] at hz
        omega
      refine ⟨acc, p1.wr, ln, σ2, Z10, e10, F10, accT ++ [t], _, ys2, w2, l2, (xx.put (p := D) (.inl ud)).ext (U' := fun b => b = D ∨ (S b ∨ U10 b)) (fun b => ?_), .ls (.inl upd_same) ?_ ?_ (fun b => Iff.rfl), ht2, ?_⟩
      · rw [p4 b, or_assoc]
      · have q1 := p2.app (OwnL.one o10) (W := fun b => S b ∨ U10 b) (fun b y z => dj b ((p4 b).mpr (.inr y)) z) (fun b => Iff.rfl)
        refine q1.keep (Same.refl _) fun b y u e => ?_
        rw [upd_ne (fun z => ?_)]
        · exact e
        · subst z
          rcases y with y | y
          · exact p3 y
          · exact dj _ ud y
      · rintro (y | y)
        · exact p3 y
        · exact dj _ ud y
      · have hys' : t :: ys2 = ys' := hys
        subst hys'
        simp
theorem sd_ocomp {own : List (Str × Nat)} {elt tg it ifs : E} (hi : SdI G it) (ht : SdT G ifs) (he : SdO G elt) : SdO G (.ocomp own elt tg it ifs) := by
  intro N sc e hc X W k cx tk gk σ H Z env F P R nb rx Q ok
  have sh : ∃ elt' tg' it' ifs' scope pos, e = .ListComp elt' [⟨tg', it', ifs', 0⟩] scope pos := by
    unfold chkO at hc
    split at hc <;> first | contradiction | exact ⟨_, _, _, _, _, _, rfl⟩
  obtain ⟨elt', tg', it', ifs', scope, pos, rfl⟩ := sh
  obtain ⟨wi, g, tt, te, h1, h2, h3, h4, h5, h6, h7⟩ := ocomp_t hi ht he hc cx tk gk
  exact wE_of (pe_lc cx.calm (by rw [cx.nm]; exact cx.nd) h1 h6 h2 h3 h4 h5) (h7 σ H Z env F P R nb rx Q ok)
/-- a tree that is frozen at once -/
theorem ROk.frz {m : E} {X : Cx} {W : WX} {t : TE} (h : ROk G m X W t) : ROk G (.ofz (.ofr m)) X W t := by
  intro σ H Z env F P R nb rx Q ok
  simp only [evO, evE] at nb rx ok
  refine h σ H Z env F P R (bind_nb (bind_nb nb)) (rx.next (Nx.refl R) fun z env' h => bind_rx (bind_rx h)) _ fun t1 env1 h1 v H1 Z1 F1 U1 x1 o1 => ?_
  rw [h1] at nb ok
  simp only [bind_ok] at nb ok
  obtain ⟨d, hd⟩ := ofO_nb (bind_nb nb)
  rw [hd] at ok
  simp only [ofO_some, bind_ok] at ok
  obtain ⟨Z', R1, zz, zf, zo⟩ := x1.n.rel.frz x1.live x1.ap
  have dz : Dz X.K Z' v d := o1.freeze hd zz zf
  refine ok _ env1 rfl v H1 Z' F1 _ (Ox.nil ⟨R1, ⟨x1.n.stp.zz.trans zz, x1.n.stp.keep, x1.n.stp.new, fun b o e => ?_⟩, x1.n.all, x1.n.rok⟩ (fun z => by simp [quiet] at z)) (.fz dz fun _ x => x)
  rcases zo b o e with q | q
  · exact x1.n.stp.nz b o q
  · rcases x1.st.new b (.inr q) with y | y
    · exact .inr (.inl y)
    · exact .inr (.inr y)
end
end Mp

end
section
set_option Elab.async false
set_option linter.all false
set_option maxRecDepth 100000
set_option autoImplicit false
/-! MiniPy, part T: arguments and calls. -/
namespace Mp
open PySem PySem.Spec PyProof.Rows L2

/-- arguments as they stand ahead of a call -/
inductive ArgsR (C : Ct) (σ : Sto) (H Z : Hp) (env : Env) (F : Nat → FS) : List AV → List V → FS → Prop
  | nil {U : FS} : (∀ b, ¬ U b) → ArgsR C σ H Z env F [] [] U
  | val {t : T} {v : V} {as : List AV} {vs : List V} {U S W : FS} : Own C false H Z v t U → ArgsR C σ H Z env F as vs S → (∀ b, U b → ¬ S b) → (∀ b, W b ↔ U b ∨ S b) → ArgsR C σ H Z env F (.val t :: as) (v :: vs) W
  | pth {rw : Bool} {r : Nat} {p : List Sg} {v : V} {as : List AV} {vs : List V} {S : FS} : Place C σ H Z env F r p v → ((AV.pth rw r p).tree env).isSome → ArgsR C σ H Z env F as vs S → ArgsR C σ H Z env F (.pth rw r p :: as) (v :: vs) S
def SdA (G : Gl) (m : E) : Prop := ∀ (N : List Str) (sc : Scope) (es : List Expr), chkA N sc m es = true → ∀ (X : Cx) (W : WX) (k : Nat), CxOk N sc k X → Takes X W → GOk G (ctOf X) k →
  ∀ (σ : Sto) (H Z : Hp) (env : Env) (F : Nat → FS) (P : List (Nat × V)), Rel (ctOf X) σ H Z env F P → evA G m env ≠ .bad → Rx (ctOf X) W σ H Z env F P (evA G m env) →
  ∀ Q : List V → Hp → Prop, (∀ as env', evA G m env = .ok as env' → ∀ vs H' Z' F' U, Ox (ctOf X) σ H Z env F P (quiet m) H' Z' env' F' U → ArgsR (ctOf X) σ H' Z' env' F' as vs U → Q vs H') → wA X es σ H Q
def SdA1 (G : Gl) (m : E) : Prop := ∀ (N : List Str) (sc : Scope) (e : Expr), chkA1 N sc m e = true → ∀ (X : Cx) (W : WX) (k : Nat), CxOk N sc k X → Takes X W → GOk G (ctOf X) k →
  ∀ (σ : Sto) (H Z : Hp) (env : Env) (F : Nat → FS) (P : List (Nat × V)), Rel (ctOf X) σ H Z env F P → evA1 G m env ≠ .bad → Rx (ctOf X) W σ H Z env F P (evA1 G m env) →
  ∀ Q : VK, (∀ a env', evA1 G m env = .ok a env' → ∀ v H' Z' F' U, Ox (ctOf X) σ H Z env F P (quiet m) H' Z' env' F' U →
    ((∃ t, a = .val t ∧ Own (ctOf X) false H' Z' v t U) ∨ ∃ rw r p, a = .pth rw r p ∧ Place (ctOf X) σ H' Z' env' F' r p v ∧ ∀ b, ¬ U b) → Q v H') → wE X e σ H Q
section
variable {G : Gl}
theorem sd_ava {o : E} (ho : SdO G o) : SdA1 G (.ava o) := by
  intro N sc e hc X W k cx tk gk σ H Z env F P R nb rx Q ok
  simp only [chkA1] at hc
  simp only [evA1] at nb rx ok
  refine ho N sc e hc X W k cx tk gk σ H Z env F P R (bind_nb nb) (rx.next (Nx.refl R) fun z env' h => bind_rx h) _ fun t env1 h1 v H1 Z1 F1 U1 x1 o1 => ?_
  rw [h1] at ok
  exact ok _ env1 rfl v H1 Z1 F1 U1 x1 (.inl ⟨t, rfl, o1⟩)
theorem sd_aro {l : E} (hl : SdL G l) : SdA1 G (.aro l) := by
  intro N sc e hc X W k cx tk gk σ H Z env F P R nb rx Q ok
  simp only [chkA1] at hc
  simp only [evA1] at nb rx ok
  refine hl N sc e hc X W k cx tk gk σ H Z env F P R (bind_nb nb) (rx.next (Nx.refl R) fun z env' h => bind_rx h) _ fun q env1 h1 v H1 Z1 F1 n1 q1 pl => ?_
  rw [h1] at ok
  exact ok _ env1 rfl v H1 Z1 F1 _ (Ox.nil n1 q1) (.inr ⟨_, _, _, rfl, pl, fun _ x => x⟩)
theorem sd_arw {l : E} (hl : SdL G l) : SdA1 G (.arw l) := by
  intro N sc e hc X W k cx tk gk σ H Z env F P R nb rx Q ok
  simp only [chkA1] at hc
  simp only [evA1] at nb rx ok
  refine hl N sc e hc X W k cx tk gk σ H Z env F P R (bind_nb nb) (rx.next (Nx.refl R) fun z env' h => bind_rx h) _ fun q env1 h1 v H1 Z1 F1 n1 q1 pl => ?_
  rw [h1] at ok
  exact ok _ env1 rfl v H1 Z1 F1 _ (Ox.nil n1 fun z => by simp [quiet] at z) (.inr ⟨_, _, _, rfl, pl, fun _ x => x⟩)
theorem sd_nilA : SdA G .nil := by
  intro N sc es hc X W k cx tk gk σ H Z env F P R nb rx Q ok
  cases es with
  | nil => exact wA_of pa_nil (ok [] env rfl [] H Z F _ (Ox.nil (Nx.refl R) fun _ => ⟨Same.refl H, rfl, rfl⟩) (.nil fun _ x => x))
  | cons x xs => simp [chkA] at hc
theorem ArgsR.ext {C : Ct} {σ : Sto} {H Z : Hp} {env : Env} {F : Nat → FS} {as : List AV} {vs : List V} {U U' : FS} (h : ArgsR C σ H Z env F as vs U) (e : ∀ b, U' b ↔ U b) : ArgsR C σ H Z env F as vs U' := by
  have : U' = U := funext fun b => propext (e b)
  subst this
  exact h
theorem sd_consA {a r : E} (ha : SdA1 G a) (hr : SdA G r) : SdA G (.cons a r) := by
  intro N sc es hc X W k cx tk gk σ H Z env F P R nb rx Q ok
  cases es with
  | nil => simp [chkA] at hc
  | cons x xs =>
    simp only [chkA, Bool.and_eq_true] at hc
    obtain ⟨⟨ca, cr⟩, hp⟩ := hc
    simp only [evA] at nb rx ok
    refine wA_of (pa_cons pe_w pa_w (plS_star hp)) ?_
    refine ha N sc x ca X W k cx tk gk σ H Z env F P R (bind_nb nb) (rx.next (Nx.refl R) fun z env' h => bind_rx h) _ fun a1 env1 h1 v H1 Z1 F1 U1 x1 o1 => ?_
    rw [h1] at nb ok rx
    simp only [bind_ok] at nb ok rx
    by_cases hlt : lateA a1 r = false
    · rw [if_pos hlt] at nb; exact absurd rfl nb
    rw [if_neg hlt] at nb ok rx
    refine hr N sc xs cr X W k cx tk gk σ H1 Z1 env1 F1 P x1.n.rel (bind_nb nb) (rx.next x1.n fun z env' h => bind_rx h) _ fun as env2 h2 vs H2 Z2 F2 U2 x2 o2 => ?_
    rw [h2] at nb ok
    simp only [bind_ok] at nb ok
    by_cases hs : (a1.tree env2).isSome
    case neg => rw [if_neg hs] at nb; exact absurd rfl nb
    rw [if_pos hs] at ok
    obtain ⟨xx, dj⟩ := x1.two x2
    refine ok (a1 :: as) env2 rfl (v :: vs) H2 Z2 F2 _ xx ?_
    rcases o1 with ⟨t, rfl, o1⟩ | ⟨rw, r', p, rfl, pl, emp⟩
    · exact .val (x2.st.own o1 x1.ap.af) o2 dj fun b => Iff.rfl
    · refine ArgsR.ext (U := U2) (.pth (pl.late x2.n ?_ ?_) hs o2) fun b => ⟨fun z => z.elim (fun y => absurd y (emp b)) id, .inr⟩
      · rw [Bool.not_eq_false] at hlt
        simp only [lateA, Bool.or_eq_true] at hlt
        exact hlt.imp (fun z => by simpa using z) x2.q
      · cases rw with
        | false => exact hs
        | true =>
          simp only [AV.tree] at hs
          cases q : ownP env2 r' p with
          | none => rw [q] at hs; cases hs
          | some t => rw [readP_own q]; rfl
end

/-! ### what the callee finds -/
def consF (U : FS) (F : Nat → FS) : Nat → FS
  | 0 => U
  | i + 1 => F i
section
variable {C : Ct} {σ : Sto} {H Z : Hp} {env : Env} {F : Nat → FS} {P : List (Nat × V)}
theorem slotsOf_noal : ∀ {ms : List Mode} {ts : List T} {i r : Nat} {p : List Sg}, (slotsOf ms ts)[i]? ≠ some (Sl.al r p)
  | [], _, _, _, _, h => by simp [slotsOf] at h
  | _ :: _, [], _, _, _, h => by simp [slotsOf] at h
  | m :: ms, t :: ts, 0, r, p, h => by cases m <;> simp [slotsOf, slotOf] at h
  | m :: ms, t :: ts, i + 1, r, p, h => slotsOf_noal (ms := ms) (ts := ts) (i := i) (r := r) (p := p) (by simpa [slotsOf] using h)
theorem Rel.cons {σ' : Sto} {env' : Env} {F' : Nat → FS} {v : V} {s : Sl} {U : FS} (R : Rel C σ' H Z env' F' []) (so : SlotOk C H Z (some v) s U) (noal : ∀ (i r : Nat) (p : List Sg), (s :: env')[i]? ≠ some (Sl.al r p)) (hd : (∃ t, s = .own t) → (∀ j b, U b → ¬ F' j b) ∧ ∀ b, U b → Z b = none) (tl : ∀ j b, IsOwn env' j → F' j b → ¬ U b) :
    Rel C (some v :: σ') H Z (s :: env') (consF U F') [] := by
  have io : ∀ j, IsOwn (s :: env') (j + 1) ↔ IsOwn env' j := fun j => by unfold IsOwn; simp
  refine ⟨by simp [R.len], fun i s' e => ?_, fun i e b x => ?_, fun i j b n ho x y => ?_, fun i b ho x => ?_, R.sub, fun i r p e => absurd e (noal i r p), fun q hq => by cases hq⟩
  · cases i with
    | zero => simp only [List.getElem?_cons_zero, Option.some.injEq] at e; subst e; exact ⟨some v, rfl, so⟩
    | succ i => exact R.slot i s' (by simpa using e)
  · cases i with
    | zero => simp at e
    | succ i => exact R.out i (by simpa using e) b x
  · cases i with
    | zero =>
      obtain ⟨t, e⟩ := ho
      simp only [List.getElem?_cons_zero, Option.some.injEq] at e
      cases j with
      | zero => exact n rfl
      | succ j => exact (hd ⟨t, e⟩).1 j b x y
    | succ i =>
      have ho' := (io i).mp ho
      cases j with
      | zero => exact tl i b ho' x y
      | succ j => exact R.dj i j b (fun z => n (by rw [z])) ho' x y
  · cases i with
    | zero =>
      obtain ⟨t, e⟩ := ho
      simp only [List.getElem?_cons_zero, Option.some.injEq] at e
      exact (hd ⟨t, e⟩).2 b x
    | succ i => exact R.az i b ((io i).mp ho) x
theorem noRw_roots : ∀ {as : List AV}, (∀ a ∈ as, ∀ r p, a ≠ AV.pth true r p) → rootsOk as = true
  | [], _ => rfl
  | .val t :: as, h => noRw_roots (as := as) fun a ha => h a (List.mem_cons_of_mem _ ha)
  | .pth true r p :: as, h => absurd rfl (h _ List.mem_cons_self r p)
  | .pth false r p :: as, h => by
    simp only [rootsOk, Bool.and_eq_true, List.all_eq_true]
    refine ⟨fun a ha => ?_, noRw_roots (as := as) fun a ha => h a (List.mem_cons_of_mem _ ha)⟩
    cases a with
    | val t => rfl
    | pth rw r' p' =>
      cases rw with
      | false => rfl
      | true => exact absurd rfl (h _ (List.mem_cons_of_mem _ ha) r' p')
theorem ownP_inv {r : Nat} {p : List Sg} {t1 : T} (h : ownP env r p = some t1) : ∃ t, ownT env r = some t ∧ getP t p = some t1 ∧ IsOwn env r := by
  unfold ownP at h
  cases q : ownT env r with
  | none => rw [q] at h; cases h
  | some t =>
    rw [q] at h
    refine ⟨t, rfl, h, ?_⟩
    unfold ownT at q
    split at q
    · exact ⟨_, by assumption⟩
    · cases q
theorem args_rel (R : Rel C σ H Z env F P) : ∀ {as : List AV} {vs : List V} {S : FS} {ms : List Mode} {ts : List T}, ArgsR C σ H Z env F as vs S → Apt F S → (∀ b, S b → Z b = none) → modeOk ms as = true → rootsOk as = true → treesOf env as = some ts →
    ts.length = ms.length ∧ vs.length = ms.length ∧ ∃ Uf : Nat → FS, Rel C (vs.map some) H Z (slotsOf ms ts) Uf [] ∧ (∀ j b, Uf j b → S b ∨ ∃ a ∈ as, ∃ rw r p, a = AV.pth rw r p ∧ F r b) ∧
      (∀ j b, IsOwn (slotsOf ms ts) j → Uf j b → S b ∨ ∃ r p, as[j]? = some (.pth true r p)) ∧
      ∀ (i r : Nat) (p : List Sg), as[i]? = some (.pth true r p) → ms[i]? = some .rw ∧ ∃ v w t t1, vs[i]? = some v ∧ ownT env r = some t ∧ σ[r]? = some (some w) ∧ getP t p = some t1 ∧ Lens C false H Z w t (F r) p v t1 (Uf i)
  | _, _, S, ms, ts, .nil _, _, _, hm, _, ht => by
    cases ms with
    | nil =>
      simp only [treesOf, Option.some.injEq] at ht
      subst ht
      refine ⟨rfl, rfl, fun _ _ => False, ⟨rfl, fun i s e => by simp [slotsOf] at e, fun _ _ _ x => x, fun _ _ _ _ _ x => x.elim, fun _ _ _ x => x.elim, R.sub, fun i r p e => by simp [slotsOf] at e, fun q hq => by cases hq⟩, fun _ _ x => x.elim, fun _ _ _ x => x.elim, fun i r p e => by simp at e⟩
    | cons m ms => simp [modeOk] at hm
  | _, _, S, ms, ts, .val (t := t) (v := v) (as := as) (vs := vs) (U := U) (S := S') o rest dj hW, ap, zf, hm, hr, ht => by
    cases ms with
    | nil => simp [modeOk] at hm
    | cons m ms =>
      cases m with
      | val =>
        simp only [modeOk] at hm
        simp only [rootsOk] at hr
        simp only [treesOf, AV.tree] at ht
        cases ht' : treesOf env as with
        | none => rw [ht'] at ht; cases ht
        | some ts' =>
          rw [ht'] at ht
          have ht := Option.some.inj ht
          subst ht
          have ap' : Apt F S' := fun j b x => ap j b ((hW b).mpr (.inr x))
          obtain ⟨l1, l2, Uf, R', c1, c2, c3⟩ := args_rel R rest ap' (fun b x => zf b ((hW b).mpr (.inr x))) hm hr ht'
          have U1 : ∀ j b, U b → ¬ Uf j b := fun j b x y => by
            rcases c1 j b y with z | ⟨a, _, rw, r, p, _, z⟩
            · exact dj b x z
            · exact ap r b ((hW b).mpr (.inl x)) z
          refine ⟨by simp [l1], by simp [l2], consF U Uf, R'.cons (s := .own t) ⟨v, rfl, o⟩ (fun i r p => slotsOf_noal (ms := .val :: ms) (ts := t :: ts')) (fun _ => ⟨U1, fun b x => zf b ((hW b).mpr (.inl x))⟩) (fun j b _ y x => U1 j b x y), fun j b x => ?_, fun j b ho x => ?_, fun i r p e => ?_⟩
          · cases j with
            | zero => exact .inl ((hW b).mpr (.inl x))
            | succ j =>
              rcases c1 j b x with z | ⟨a, ha, z⟩
              · exact .inl ((hW b).mpr (.inr z))
              · exact .inr ⟨a, List.mem_cons_of_mem _ ha, z⟩
          · cases j with
            | zero => exact .inl ((hW b).mpr (.inl x))
            | succ j =>
              rcases c2 j b (by unfold IsOwn at ho ⊢; simpa [slotsOf] using ho) x with z | ⟨r, p, z⟩
              · exact .inl ((hW b).mpr (.inr z))
              · exact .inr ⟨r, p, by simpa using z⟩
          · cases i with
            | zero => simp at e
            | succ i =>
              obtain ⟨e1, v', w, t0, t1, e2, e3⟩ := c3 i r p (by simpa using e)
              exact ⟨by simpa using e1, v', w, t0, t1, by simpa using e2, e3⟩
      | ro => simp [modeOk] at hm
      | rw => simp [modeOk] at hm
  | _, _, S, ms, ts, .pth (rw := rw) (r := r) (p := p) (v := v) (as := as) (vs := vs) pl hs rest, ap, zf, hm, hr, ht => by
    cases ms with
    | nil => simp [modeOk] at hm
    | cons m ms =>
      have parts : ∃ tt ts', (AV.pth rw r p).tree env = some tt ∧ treesOf env as = some ts' ∧ ts = tt :: ts' := by
        simp only [treesOf] at ht
        cases q1 : (AV.pth rw r p).tree env with
        | none => rw [q1] at ht; cases ht
        | some tt =>
          cases q2 : treesOf env as with
          | none => rw [q1, q2] at ht; cases ht
          | some ts' =>
            rw [q1, q2] at ht
            exact ⟨tt, ts', rfl, rfl, (Option.some.inj ht).symm⟩
      obtain ⟨tt, ts', q1, q2, rfl⟩ := parts
      cases rw with
      | false =>
        cases m with
        | ro =>
          simp only [modeOk] at hm
          simp only [rootsOk, Bool.and_eq_true, List.all_eq_true] at hr
          obtain ⟨hr1, hr2⟩ := hr
          obtain ⟨l1, l2, Uf, R', c1, c2, c3⟩ := args_rel R rest ap zf hm hr2 q2
          obtain ⟨t1, U1, rd, o, sub⟩ := pl.read
          simp only [AV.tree] at q1
          rw [rd] at q1
          have e1 := Option.some.inj q1
          subst e1
          refine ⟨by simp [l1], by simp [l2], consF U1 Uf, R'.cons (s := .ro t1) ⟨v, rfl, o⟩ (fun i r p => slotsOf_noal (ms := .ro :: ms) (ts := t1 :: ts')) (fun ⟨t, e⟩ => by cases e) (fun j b ho y x => ?_), fun j b x => ?_, fun j b ho x => ?_, fun i r' p' e => ?_⟩
          · rcases c2 j b ho y with z | ⟨r', p', z⟩
            · exact ap r b z (sub b x)
            · obtain ⟨_, v', w, t0, t2, _, e3, _, _, L⟩ := c3 j r' p' z
              have nr := hr1 _ (List.mem_of_getElem? z)
              simp only [decide_eq_true_eq] at nr
              obtain ⟨_, _, _, io⟩ := R.rootOwn e3
              exact R.dj r' r b nr io (L.sub b y) (sub b x)
          · cases j with
            | zero => exact .inr ⟨_, List.mem_cons_self, _, r, p, rfl, sub b x⟩
            | succ j =>
              rcases c1 j b x with z | ⟨a, ha, z⟩
              · exact .inl z
              · exact .inr ⟨a, List.mem_cons_of_mem _ ha, z⟩
          · cases j with
            | zero => obtain ⟨t, e⟩ := ho; simp [slotsOf, slotOf] at e
            | succ j =>
              rcases c2 j b (by unfold IsOwn at ho ⊢; simpa [slotsOf] using ho) x with z | ⟨r', p', z⟩
              · exact .inl z
              · exact .inr ⟨r', p', by simpa using z⟩
          · cases i with
            | zero => simp at e
            | succ i =>
              obtain ⟨e1, v', w, t0, t2, e2, e3⟩ := c3 i r' p' (by simpa using e)
              exact ⟨by simpa using e1, v', w, t0, t2, by simpa using e2, e3⟩
        | val => simp [modeOk] at hm
        | rw => simp [modeOk] at hm
      | true =>
        cases m with
        | rw =>
          simp only [modeOk] at hm
          simp only [rootsOk, List.all_eq_true] at hr
          have nrw : ∀ a ∈ as, ∀ r p, a ≠ AV.pth true r p := fun a ha r' p' e => by
            subst e
            have := hr _ ha
            simp at this
          obtain ⟨l1, l2, Uf, R', c1, c2, c3⟩ := args_rel R rest ap zf hm (noRw_roots nrw) q2
          simp only [AV.tree] at q1
          obtain ⟨w, t, U1, h1, h2, L⟩ := pl.owned R q1
          obtain ⟨t', h3, h4, io⟩ := ownP_inv q1
          rw [h1] at h3
          have e1 := Option.some.inj h3
          subst e1
          have dj : ∀ j b, U1 b → ¬ Uf j b := fun j b x y => by
            rcases c1 j b y with z | ⟨a, ha, rw, r', p', ea, z⟩
            · exact ap r b z (L.sub b x)
            · subst ea
              have nr := hr _ ha
              simp only [Bool.and_eq_true, decide_eq_true_eq] at nr
              exact R.dj r r' b (Ne.symm nr.2) io (L.sub b x) z
          refine ⟨by simp [l1], by simp [l2], consF U1 Uf, R'.cons (s := .own tt) ⟨v, rfl, L.own⟩ (fun i r p => slotsOf_noal (ms := .rw :: ms) (ts := tt :: ts')) (fun _ => ⟨dj, fun b x => R.az r b io (L.sub b x)⟩) (fun j b _ y x => dj j b x y), fun j b x => ?_, fun j b ho x => ?_, fun i r' p' e => ?_⟩
          · cases j with
            | zero => exact .inr ⟨_, List.mem_cons_self, _, r, p, rfl, L.sub b x⟩
            | succ j =>
              rcases c1 j b x with z | ⟨a, ha, z⟩
              · exact .inl z
              · exact .inr ⟨a, List.mem_cons_of_mem _ ha, z⟩
          · cases j with
            | zero => exact .inr ⟨r, p, rfl⟩
            | succ j =>
              rcases c2 j b (by unfold IsOwn at ho ⊢; simpa [slotsOf] using ho) x with z | ⟨r', p', z⟩
              · exact .inl z
              · exact .inr ⟨r', p', by simpa using z⟩
          · cases i with
            | zero =>
              simp only [List.getElem?_cons_zero, Option.some.injEq] at e
              injection e with _ e1 e2
              subst e1; subst e2
              exact ⟨rfl, v, w, t, tt, rfl, h1, h2, h4, L⟩
            | succ i =>
              obtain ⟨e1, v', w, t0, t2, e2, e3⟩ := c3 i r' p' (by simpa using e)
              exact ⟨by simpa using e1, v', w, t0, t2, by simpa using e2, e3⟩
        | val => simp [modeOk] at hm
        | ro => simp [modeOk] at hm
end
end Mp

end
section
set_option Elab.async false
set_option linter.all false
set_option maxRecDepth 100000
set_option autoImplicit false
/-! MiniPy, part U: calls. -/
namespace Mp
open PySem PySem.Spec PyProof.Rows L2

section
variable {C : Ct} {σ : Sto} {H Z H' Z' H1 Z1 : Hp} {env env1 env' : Env} {F F1 : Nat → FS} {P : List (Nat × V)} {A A' U S : FS} {q : Bool}
theorem Rel.step (R : Rel C σ H Z env F P) (s : Stp H Z A H' Z' A') (d : ∀ j b, F j b → ¬ A b) (zs : Same Z' H') : Rel C σ H' Z' env F P := by
  have kp : ∀ j b u, F j b → H b = some u → H' b = some u := fun j b u x e => s.keep b u e (d j b x)
  refine ⟨R.len, fun i sl es => ?_, R.out, R.dj, fun i b ho x => ?_, zs, fun i r q ea => ?_, R.pr⟩
  · obtain ⟨x, e1, q⟩ := R.slot i sl es
    refine ⟨x, e1, ?_⟩
    cases sl with
    | no => exact q
    | own t => obtain ⟨v, a, w⟩ := q; exact ⟨v, a, w.keep s.zz fun b x u e => kp i b u x e⟩
    | ro t => obtain ⟨v, a, w⟩ := q; exact ⟨v, a, w.keep s.zz fun b x u e => kp i b u x e⟩
    | al r p => exact q
  · cases q : Z' b with
    | none => rfl
    | some o =>
      rcases s.nz b o q with z | z | z
      · rw [R.az i b ho x] at z; cases z
      · exact absurd z (d i b x)
      · obtain ⟨o', e'⟩ := R.live x
        rw [e'] at z; cases z
  · obtain ⟨v, w, a, b, c, dd, f⟩ := R.al i r q ea
    refine ⟨v, w, a, b, ?_, dd, f⟩
    unfold readP at dd
    cases e : rootT env r with
    | none => rw [e] at dd; simp at dd
    | some t =>
      rw [e] at dd
      simp only [Option.bind_some] at dd
      obtain ⟨w', e1, o1⟩ := R.rootAny e
      rw [b] at e1
      have := Option.some.inj (Option.some.inj e1)
      subst this
      exact c.own o1 dd fun b u x e => kp r b u x e
theorem Stp.dead (s : Stp H Z A H' Z' A') {b : Addr} (h : H' b = none) : A b ∨ H b = none := by
  classical
  by_cases n : A b
  · exact .inl n
  · refine .inr ?_
    cases e : H b with
    | none => rfl
    | some o => rw [s.keep b o e n] at h; cases h
theorem backA_no : ∀ {as : List AV} {ts : List T} {env env' : Env}, (∀ a ∈ as, ∀ r p, a ≠ AV.pth true r p) → backA env as ts = some env' → env' = env
  | [], _, _, _, _, h => by simp only [backA, Option.some.injEq] at h; exact h.symm
  | .val t :: as, [], _, _, _, h => by simp [backA] at h
  | .val t :: as, _ :: ts, _, _, n, h => backA_no (as := as) (ts := ts) (fun a ha => n a (List.mem_cons_of_mem _ ha)) (by simpa [backA] using h)
  | .pth true r p :: as, _, _, _, n, _ => absurd rfl (n _ List.mem_cons_self r p)
  | .pth false r p :: as, [], _, _, _, h => by simp [backA] at h
  | .pth false r p :: as, _ :: ts, _, _, n, h => backA_no (as := as) (ts := ts) (fun a ha => n a (List.mem_cons_of_mem _ ha)) (by simpa [backA] using h)
theorem roots_no {r : Nat} {p : List Sg} {as : List AV} (h : rootsOk (.pth true r p :: as) = true) : ∀ a ∈ as, ∀ r p, a ≠ AV.pth true r p := fun a ha r' p' e => by
  subst e
  simp only [rootsOk, List.all_eq_true] at h
  have := h _ ha
  simp at this
theorem backA_inv : ∀ {as : List AV} {ts : List T} {env env' : Env}, rootsOk as = true → backA env as ts = some env' → ((∀ a ∈ as, ∀ r p, a ≠ AV.pth true r p) ∧ env' = env) ∨
    ∃ (i r : Nat) (p : List Sg) (t' : T), as[i]? = some (.pth true r p) ∧ ts[i]? = some t' ∧ writeP env r p t' = some env' ∧ ∀ (j r' : Nat) (p' : List Sg), as[j]? = some (.pth true r' p') → j = i
  | [], _, _, _, _, h => by
    simp only [backA, Option.some.injEq] at h
    exact .inl ⟨fun a ha => by simp at ha, h.symm⟩
  | a :: as, [], _, _, _, h => by cases a with | val t => simp [backA] at h | pth rw r p => cases rw <;> simp [backA] at h
  | .val t :: as, _ :: ts, env, env', hr, h => by
    rcases backA_inv (as := as) (ts := ts) (env := env) (env' := env') hr (by simpa [backA] using h) with ⟨a, b⟩ | ⟨i, r, p, t', e1, e2, e3, e4⟩
    · exact .inl ⟨fun x hx => by rcases List.mem_cons.mp hx with rfl | hx; exact fun _ _ z => (by cases z); exact a x hx, b⟩
    · refine .inr ⟨i + 1, r, p, t', by simpa using e1, by simpa using e2, e3, fun j r' p' z => ?_⟩
      cases j with
      | zero => simp at z
      | succ j => rw [e4 j r' p' (by simpa using z)]
  | .pth false r0 p0 :: as, _ :: ts, env, env', hr, h => by
    simp only [rootsOk, Bool.and_eq_true] at hr
    rcases backA_inv (as := as) (ts := ts) (env := env) (env' := env') hr.2 (by simpa [backA] using h) with ⟨a, b⟩ | ⟨i, r, p, t', e1, e2, e3, e4⟩
    · exact .inl ⟨fun x hx => by rcases List.mem_cons.mp hx with rfl | hx; exact fun _ _ z => (by cases z); exact a x hx, b⟩
    · refine .inr ⟨i + 1, r, p, t', by simpa using e1, by simpa using e2, e3, fun j r' p' z => ?_⟩
      cases j with
      | zero => simp at z
      | succ j => rw [e4 j r' p' (by simpa using z)]
  | .pth true r p :: as, t :: ts, env, env', hr, h => by
    have no := roots_no hr
    simp only [backA] at h
    cases q : writeP env r p t with
    | none => rw [q] at h; cases h
    | some env1 =>
      rw [q] at h
      have e := backA_no no h
      subst e
      refine .inr ⟨0, r, p, t, rfl, rfl, q, fun j r' p' z => ?_⟩
      cases j with
      | zero => rfl
      | succ j => exact absurd rfl (no _ (List.mem_of_getElem? (by simpa using z)) r' p')
theorem modeOk_rw : ∀ {ms : List Mode} {as : List AV} {i : Nat}, modeOk ms as = true → ms[i]? = some Mode.rw → ∃ r p, as[i]? = some (AV.pth true r p)
  | [], _, _, _, h => by simp at h
  | m :: ms, [], _, h, _ => by cases m <;> simp [modeOk] at h
  | m :: ms, a :: as, 0, h, e => by
    simp only [List.getElem?_cons_zero, Option.some.injEq] at e
    subst e
    cases a with
    | val t => simp [modeOk] at h
    | pth rw r p =>
      cases rw with
      | false => simp [modeOk] at h
      | true => exact ⟨r, p, rfl⟩
  | m :: ms, a :: as, i + 1, h, e => by
    have h' : modeOk ms as = true := by
      cases a with
      | val t => cases m <;> first | (simpa [modeOk] using h) | (simp [modeOk] at h)
      | pth rw r p => cases rw <;> cases m <;> first | (simpa [modeOk] using h) | (simp [modeOk] at h)
    obtain ⟨r, p, z⟩ := modeOk_rw (i := i) h' (by simpa using e)
    exact ⟨r, p, by simpa using z⟩
/-- behind a call -/
theorem call_after {as : List AV} {vs : List V} {ms : List Mode} {ts ts' : List T} {Uf : Nat → FS} {Ur Uw : FS} (x : Ox C σ H Z env F P q H1 Z1 env1 F1 S) (hm : modeOk ms as = true) (hr : rootsOk as = true)
    (c2 : ∀ j b, IsOwn (slotsOf ms ts) j → Uf j b → S b ∨ ∃ r p, as[j]? = some (.pth true r p))
    (c3 : ∀ (i r : Nat) (p : List Sg), as[i]? = some (.pth true r p) → ms[i]? = some .rw ∧ ∃ v w t t1, vs[i]? = some v ∧ ownT env1 r = some t ∧ σ[r]? = some (some w) ∧ getP t p = some t1 ∧ Lens C false H1 Z1 w t (F1 r) p v t1 (Uf i))
    (rw : RwOk C ms vs ts' H' Z' Uw) (dj : ∀ b, Ur b → ¬ Uw b) (zr : ∀ b, Ur b → Z' b = none) (lv : ∀ b, Ur b → ∃ o, H' b = some o) (zs : Same Z' H') (st : Stp H1 Z1 (Af (slotsOf ms ts) Uf) H' Z' (fun b => Ur b ∨ Uw b)) (hb : backA env1 as ts' = some env') :
    ∃ F', Ox C σ H Z env F P false H' Z' env' F' Ur := by
  obtain ⟨rw1, rw2, rw3⟩ := rw
  rcases backA_inv hr hb with ⟨no, rfl⟩ | ⟨i, r, p, t', e1, e2, e3, e4⟩
  · have af : ∀ b, Af (slotsOf ms ts) Uf b → S b := fun b ⟨j, ho, y⟩ => by
      rcases c2 j b ho y with z | ⟨r, p, z⟩
      · exact z
      · exact absurd rfl (no _ (List.mem_of_getElem? z) r p)
    have uw : ∀ b, ¬ Uw b := rw2 fun i e => by
      obtain ⟨r, p, z⟩ := modeOk_rw hm e
      exact absurd rfl (no _ (List.mem_of_getElem? z) r p)
    have R' := x.n.rel.step st (fun j b y z => x.ap j b (af b z) y) zs
    have s1 : Stp H1 Z1 (fun b => Af env' F1 b ∨ S b) H' Z' (fun b => Af env' F1 b ∨ Ur b) := st.mono (fun b y => .inr (af b y)) fun b y => y.elim (fun z => .inr (.inl z)) fun z => .inl (.inl z)
    have s2 := x.st.trans s1
    refine ⟨F1, ⟨R', s2.mono (fun _ y => y) (fun b y => .inl (.inl y)), x.n.all, x.n.rok⟩, lv, fun j b y z => ?_, zr, s2, fun z => by cases z⟩
    rcases st.new b (.inl y) with u | u
    · exact x.ap j b (af b u) z
    · obtain ⟨o, e⟩ := x.n.rel.live z
      rw [e] at u; cases u
  · obtain ⟨m1, v, w, t, t1, f1, f2, f3, f4, L⟩ := c3 i r p e1
    obtain ⟨t'', g1, g2⟩ := rw1 i v m1 f1
    rw [e2] at g1
    have := Option.some.inj g1
    subst this
    have io := (x.n.rel.rootOwn f2).choose_spec.2.2
    have af : ∀ b, Af (slotsOf ms ts) Uf b → Uf i b ∨ S b := fun b ⟨j, ho, y⟩ => by
      rcases c2 j b ho y with z | ⟨r', p', z⟩
      · exact .inr z
      · have := e4 j r' p' z
        subst this
        exact .inl y
    obtain ⟨env2, F', ⟨h1, R', s1, al, ro⟩, fp⟩ := x.n.rel.writeX f2 f3 L (st.mono af fun b y => .inl (.inr y)) g2 x.ap rw3 zs
    rw [e3] at h1
    have := Option.some.inj h1
    subst this
    have s3 : Stp H1 Z1 (fun b => Af env1 F1 b ∨ S b) H' Z' (fun b => Af env' F' b ∨ Ur b) := ⟨s1.zz, s1.keep, fun b y => by
      rcases y with y | y
      · exact s1.new b y
      · rcases st.new b (.inl y) with z | z
        · rcases af b z with u | u
          · exact .inl (.inl ⟨r, io, L.sub b u⟩)
          · exact .inl (.inr u)
        · exact .inr z, s1.nz⟩
    have s2 := x.st.trans s3
    refine ⟨F', ⟨R', s2.mono (fun _ y => y) (fun b y => .inl (.inl y)), fun j b y => ?_, fun j t0 => ⟨(x.n.rok j t0).1.trans (ro j t0).1, fun h => ((ro j t0).2 ((x.n.rok j t0).1.mp h)).trans ((x.n.rok j t0).2 h)⟩⟩, lv, fun j b y z => ?_, zr, s2, fun z => by cases z⟩
    · have fin : (Af env F b ∨ H b = none) → (∃ i, F i b) ∨ H b = none := fun h => h.imp (fun ⟨i, _, z⟩ => ⟨i, z⟩) id
      rcases al j b y with ⟨i', z⟩ | z | z
      · exact x.n.all i' b z
      · exact fin (x.st.new b (.inr z))
      · exact fin (x.n.stp.dead z)
    · rcases fp j b z with ⟨z1, z2⟩ | ⟨z1, _⟩
      · rcases st.new b (.inl y) with u | u
        · rcases af b u with u | u
          · by_cases q : j = r
            · exact z2 q u
            · exact x.n.rel.dj r j b (Ne.symm q) io (L.sub b u) z1
          · exact x.ap j b u z1
        · obtain ⟨o, e⟩ := x.n.rel.live z1
          rw [e] at u; cases u
      · exact dj b y z1
end

/-! ### the call itself -/
section
variable {X : Cx} {k : Nat} {f : Addr} {fd : FuncData} {ps : List Str} {sp : Sp} {E : XK}
theorem run_g {pins : List (Addr × Obj)} {σ : Sto} {H : Hp} {s : Shared} {Q : VK} {us : List Value} {vs : List V} {W : WX} (F : FnOkG (ctOf X) k f fd ps sp) (hr : Room k X.A) (hg : X.A.guards = some []) (hb : Binds X.K fd ps []) (tk : Takes X W)
    (I : Inv X pins σ H s) (r : Vals vs us) (h : sp vs H Q fun c d H' => W c d σ H') : wpAny (model X.prog X.w) X.A (call (.ref f) us) (EP X pins σ Q) X.xe s := by
  have hl : (us ++ []).length = ps.length := by rw [List.append_nil, ← r.length]; exact F.len _ _ _ _ h
  have hb' := hb s us I.kIn hl
  rw [List.append_nil] at hb'
  refine wpAny_call (codeAny_mono (F.run X.A X.stack s H ⟨us, []⟩ us vs Q _ hr hg I.env0 hb' r h) fun r s' hq => ?_)
  cases r with
  | error e => exact tk e s' (XE.of_call I (fun _ _ _ h => h) hq)
  | ok fl =>
    cases fl with
    | ret u => exact I.after hq
    | next => exact False.elim hq
    | brk => exact False.elim hq
    | cont => exact False.elim hq
theorem pe_callG {x : Str} {p pos : Pos} {e : Expr} {es : List Expr} {W : WX} (F : FnOkG (ctOf X) k f fd ps sp) (hr : Room k X.A) (hg : X.A.guards = some []) (hgl : L2.Gl X x) (hm : X.mg x = some (.ref f)) (hk : PySem.W.keepIn X.K (.ref f) = true) (hb : Binds X.K fd ps []) (tk : Takes X W)
    (hdb : (x == ("__debug__" : Str)) = false) (he : plS e = true) (hes : ∀ y ∈ es, plS y = true) : PE X (.Call (.Name x p) (e :: es) [] pos) (fun σ H Q => wA X (e :: es) σ H fun vs H1 => sp vs H1 Q fun c d H' => W c d σ H') := by
  refine ⟨fun pins s σ H Q I h => ?_⟩
  refine wpAny_Call_Name_kw (ld_glob I hgl hm ?_ hdb)
  refine PySem.W.callWith_K (h₀ := X.base) I.ok.mod.kin hk (thn (pa_w.run pos pins s σ H _ I h) fun us s1 ⟨vs, H1, I1, r, q⟩ => ⟨I1.kIn, ?_⟩) (plS_star he) (stars_no hes)
  exact run_g F hr hg hb tk I1 r q
end
section
variable {G : Gl}
theorem chkA_star {N : List Str} {sc : Scope} : ∀ {xs : List Expr} {es : E}, chkA N sc es xs = true → ∀ x ∈ xs, plS x = true
  | [], _, _ => fun x hx => by cases hx
  | y :: ys, es, h => by
    cases es with
    | cons a r =>
      simp only [chkA, Bool.and_eq_true] at h
      intro x hx
      rcases List.mem_cons.mp hx with rfl | hx
      · exact h.2
      · exact chkA_star h.1.2 x hx
    | _ => simp [chkA] at h
/-- the arguments have come: what the callee is told, and what is then -/
theorem call_sp {C : Ct} {W : WX} {σ : Sto} {H Z H1 Z1 : Hp} {env env1 : Env} {F1 F : Nat → FS} {P : List (Nat × V)} {S : FS} {q : Bool} {as : List AV} {vs : List V} {Fd : Fn} {Q : VK} (x : Ox C σ H Z env F P q H1 Z1 env1 F1 S) (ar : ArgsR C σ H1 Z1 env1 F1 as vs S)
    (nb : callF (some Fd) as env1 ≠ .bad) (rx : Rx C W σ H Z env F P (callF (some Fd) as env1)) (ok : ∀ t env', callF (some Fd) as env1 = .ok t env' → ∀ v H' Z' F' U, Ox C σ H Z env F P false H' Z' env' F' U → Own C false H' Z' v t U → Q v H') :
    spOf C Fd vs H1 Q fun c d H' => W c d σ H' := by
  unfold callF at nb rx ok
  simp only at nb rx ok
  by_cases hc : (modeOk Fd.modes as && rootsOk as) = true
  case neg => rw [if_neg hc] at nb; exact absurd rfl nb
  rw [if_pos hc] at nb rx ok
  rw [Bool.and_eq_true] at hc
  cases ht : treesOf env1 as with
  | none => rw [ht] at nb; exact absurd rfl nb
  | some ts =>
    rw [ht] at nb rx ok
    simp only at nb rx ok
    obtain ⟨l1, l2, Uf, R', c1, c2, c3⟩ := args_rel x.n.rel ar x.ap x.zf hc.1 hc.2 ht
    refine ⟨l2, Z1, ts, Uf, l1, R', ?_⟩
    cases hrun : Fd.run ts with
    | bad => rw [hrun] at nb; exact absurd rfl nb
    | ok r ts' =>
      rw [hrun] at nb ok
      simp only at nb ok ⊢
      cases hb : backA env1 as ts' with
      | none => rw [hb] at nb; exact absurd rfl nb
      | some env' =>
        rw [hb] at ok
        intro v H' Z' Ur Uw o rw dj zr zs st
        obtain ⟨F', y⟩ := call_after x hc.1 hc.2 c2 c3 rw dj zr o.live zs st hb
        exact ok r env' rfl v H' Z' F' Ur y o
    | raise xn ts' =>
      rw [hrun] at nb rx
      simp only at nb rx ⊢
      cases hb : backA env1 as ts' with
      | none => rw [hb] at nb; exact absurd rfl nb
      | some env' =>
        rw [hb] at rx
        intro cls dd H' Z' Uw xr rw zs st
        obtain ⟨F', y⟩ := call_after (Ur := fun _ => False) x hc.1 hc.2 c2 c3 rw (fun _ z => z.elim) (fun _ z => z.elim) (fun _ z => z.elim) zs (st.mono (fun _ z => z) fun b z => z.elim False.elim .inl) hb
        exact rx xn env' rfl H' Z' F' cls dd y.n xr
theorem sd_call {f : Str} {args : E} (ha : SdA G args) : SdO G (.call f args) := by
  intro N sc e hc X W k cx tk gk σ H Z env F P R nb rx Q ok
  have sh : ∃ x p y ys pos, e = .Call (.Name x p) (y :: ys) [] pos := by
    unfold chkO at hc
    split at hc <;> first | contradiction | exact ⟨_, _, _, _, _, rfl⟩ | exact ⟨_, _, _, _, _, by assumption⟩
  obtain ⟨x, p, y, ys, pos, rfl⟩ := sh
  simp only [chkO, Bool.and_eq_true, decide_eq_true_eq] at hc
  obtain ⟨⟨rfl, hg⟩, ca⟩ := hc
  obtain ⟨g1, g2, g3⟩ := globB_gl cx hg
  have st := chkA_star ca
  simp only [evO] at nb rx ok
  cases hf : G.fn f with
  | none => rw [hf] at nb; exact absurd rfl nb
  | some Fd =>
    rw [hf] at nb rx ok
    simp only at nb rx ok
    obtain ⟨a, fd, ps, h1, h2, h3, h4, h5⟩ := gk.fn f Fd hf
    refine wE_of (pe_callG h5 cx.room cx.guards g1 h1 h2 h3 tk g2 (st y List.mem_cons_self) fun z hz => st z (List.mem_cons_of_mem _ hz)) ?_
    refine ha N sc _ ca X W k cx tk gk σ H Z env F P R (bind_nb nb) (rx.next (Nx.refl R) fun z env' h => bind_rx h) _ fun as env1 e1 vs H1 Z1 F1 U1 x1 o1 => ?_
    rw [e1] at nb rx ok
    simp only [bind_ok] at nb rx ok
    exact call_sp x1 o1 nb rx fun t env' e2 v H' Z' F' U y o => ok t env' e2 v H' Z' F' U ⟨y.n, y.live, y.ap, y.zf, y.st, fun z => by simp [quiet] at z⟩ o
end
end Mp

end
section
set_option Elab.async false
set_option linter.all false
set_option maxRecDepth 100000
set_option autoImplicit false
/-! MiniPy, part Ua: methods, new instances. -/
namespace Mp
open PySem PySem.Spec PyProof.Rows L2

section
variable {X : Cx} {k : Nat} {f A : Addr} {fd : FuncData} {ps : List Str} {sp : Sp}
theorem form_of {n : Nat} {pos : Pos} {ys : List Expr} {env : PySem.Env} (hes : ∀ y ∈ ys, plS y = true) (hn : n < 29) : methodCallForm (n + ([] : List Keyword).length) (backTo pos (starEach ys env)) (backToKw pos (keywordEach [] env)) = true := by
  have h1 := stars_no (pos := pos) (env := env) hes
  have h2 : (backTo pos (starEach ys env)).all (!·.1) = true := by
    rw [List.all_eq_true]
    intro x hx
    rw [List.any_eq_false] at h1
    simpa using h1 x hx
  unfold methodCallForm
  rw [h2]
  show (true && true && decide (n + 0 + 0 < 30)) = true
  simp
  omega
/-- the arguments, none among them -/
def argsT (X : Cx) : List Expr → TA
  | [], _, H, Q => Q [] H
  | e :: es, σ, H, Q => wA X (e :: es) σ H Q
theorem pe_methG {o : Expr} {m : Str} {apos pos : Pos} {ys : List Expr} {W : WX} (c : Cls X.K A) (hm : Meth X.K A m f) (F : FnOkG (ctOf X) k f fd ps sp) (hr : Room k X.A) (hg : X.A.guards = some []) (hb : Binds X.K fd ps []) (tk : Takes X W)
    (hp : plB o = true) (hl : apos.endLine = pos.line) (hes : ∀ y ∈ ys, plS y = true) (hn : ys.length < 29) :
    PE X (.Call (.Attribute o m apos) ys [] pos) (fun σ H Q => wE X o σ H fun x H1 => ∃ a dx fs, x = .ref a ∧ H1 a = some (.ins A dx fs) ∧ fs.lookup m = none ∧ argsT X ys σ H1 fun vs H2 => sp (x :: vs) H2 Q fun c d H' => W c d σ H') := by
  refine ⟨fun pins s σ H Q I h => ?_⟩
  have hform := form_of (pos := pos) (env := X.env) hes hn
  rw [arm_eval_Call, plB_base hp]
  refine wpAny_bind (thn (pe_w.run pins s σ H _ I h) fun u s1 ⟨x, H1, I1, rx, a, dx, fs, ex, ea, l, q⟩ => wpAny_bind (wpAny_standAt ?_))
  subst ex
  obtain rfl : u = Value.ref a := rx
  unfold methodCall calleeOf methodCallPos
  have hline : (apos.endLine == pos.line) = true := by rw [hl]; exact beq_self_eq_true _
  simp only [hform, hline, if_true, Bool.not_true, Bool.or_true]
  refine wpAny_bind (wpAny_holding (getmeth_ok I1 ea c hm l (wpAny_bind (wpAny_pure ?_))))
  cases ys with
  | nil =>
    exact PySem.W.callWith_K0 (first := [.ref a]) I1.kIn hm.kp (run_g (us := [.ref a]) (vs := [.ref a]) F hr hg hb tk I1 (.cons rfl .nil) q)
  | cons e es =>
    refine PySem.W.callWith_K (first := [.ref a]) (h₀ := X.base) I.ok.mod.kin hm.kp (thn (pa_w.run pos pins s1 σ H1 _ I1 q) fun us s2 ⟨vs, H2, I2, r, q2⟩ => ⟨I2.kIn, ?_⟩) (plS_star (hes e List.mem_cons_self)) (stars_no fun y hy => hes y (List.mem_cons_of_mem _ hy))
    exact run_g (us := .ref a :: us) (vs := .ref a :: vs) F hr hg hb tk I2 (.cons rfl r) q2
theorem run_makeG {pins : List (Addr × Obj)} {σ : Sto} {H : Hp} {s : Shared} {Q : VK} {us : List Value} {vs : List V} {W : WX} (M : Mk X.K A f) (F : FnOkG (ctOf X) k f fd ps sp) (hr : Room (k + 1) X.A) (hg : X.A.guards = some []) (hb : Binds X.K fd ps []) (tk : Takes X W)
    (I : Inv X pins σ H s) (r : Vals vs us)
    (h : ∀ x dx, H x = none → H dx = none → dx ≠ x → sp (.ref x :: vs) (upd (upd H dx (.own x)) x (.ins A dx [])) (fun v H2 => v = .non ∧ Q (.ref x) H2) fun c d H' => W c d σ H') :
    wpAny (model X.prog X.w) X.A (call (.ref A) us) (EP X pins σ Q) X.xe s := by
  have hq := h (s.heap.objs.size + 1) s.heap.objs.size (I.hok.fresh (Nat.le_succ _)) (I.hok.fresh (Nat.le_refl _)) (Nat.ne_of_lt (Nat.lt_succ_self _))
  have I2 := Inv.made (C := A) I
  have r2 : Vals (V.ref (s.heap.objs.size + 1) :: vs) (Value.ref (s.heap.objs.size + 1) :: us) := .cons rfl r
  have hl : (Value.ref (s.heap.objs.size + 1) :: us).length = ps.length := by rw [← r2.length]; exact F.len _ _ _ _ hq
  have hb' := hb _ (Value.ref (s.heap.objs.size + 1) :: us) I2.kIn (by rw [List.append_nil]; exact hl)
  rw [List.append_nil] at hb'
  have grd : (X.A.under (.builtin "type.__call__" ⟨.ref A :: us, []⟩)).guards = some [] := by
    show pushGuards (Code.guards (.builtin "type.__call__" ⟨.ref A :: us, []⟩)) X.A.guards = _
    rw [hg]
    rfl
  refine wpAny_call (make_map (f := f) I.kIn M.makes M.init (beq_iff_eq.mp M.fn) (codeAny_mono (F.run _ X.stack _ _ ⟨Value.ref (s.heap.objs.size + 1) :: us, []⟩ (Value.ref (s.heap.objs.size + 1) :: us) _ _ _ (hr.make A us [])
    grd (I2.env0.make A us []) hb' r2 hq) fun r s' hq' => ?_))
  cases r with
  | error e => exact tk e s' (XE.of_call I2 (fun _ _ _ h => h) hq')
  | ok fl =>
    cases fl with
    | ret u =>
      obtain ⟨v, H', I3, rv, ev, q3⟩ := I2.after hq'
      subst ev
      exact ⟨rv, ⟨V.ref (s.heap.objs.size + 1), H', I3, rfl, q3⟩⟩
    | next => exact False.elim hq'
    | brk => exact False.elim hq'
    | cont => exact False.elim hq'
theorem pe_makeG {x : Str} {p pos : Pos} {ys : List Expr} {W : WX} (M : Mk X.K A f) (F : FnOkG (ctOf X) k f fd ps sp) (hr : Room (k + 1) X.A) (hg : X.A.guards = some []) (hgl : L2.Gl X x) (hm : X.mg x = some (.ref A)) (hb : Binds X.K fd ps []) (tk : Takes X W)
    (hdb : (x == ("__debug__" : Str)) = false) (hes : ∀ y ∈ ys, plS y = true) : PE X (.Call (.Name x p) ys [] pos) (fun σ H Q => argsT X ys σ H fun vs H1 => ∀ x dx, H1 x = none → H1 dx = none → dx ≠ x →
      sp (.ref x :: vs) (upd (upd H1 dx (.own x)) x (.ins A dx [])) (fun v H2 => v = .non ∧ Q (.ref x) H2) fun c d H' => W c d σ H') := by
  refine ⟨fun pins s σ H Q I h => ?_⟩
  refine wpAny_Call_Name_kw (ld_glob I hgl hm ?_ hdb)
  cases ys with
  | nil => exact PySem.W.callWith_K0 I.kIn M.kp (run_makeG (us := []) M F hr hg hb tk I .nil h)
  | cons e es =>
    refine PySem.W.callWith_K (h₀ := X.base) I.ok.mod.kin M.kp (thn (pa_w.run pos pins s σ H _ I h) fun us s1 ⟨vs, H1, I1, r, q⟩ => ⟨I1.kIn, ?_⟩) (plS_star (hes e List.mem_cons_self)) (stars_no fun y hy => hes y (List.mem_cons_of_mem _ hy))
    exact run_makeG M F hr hg hb tk I1 r q
end
/-- the arguments, soundly, none among them -/
theorem sd_args {G : Gl} {m : E} (ha : SdA G m) {N : List Str} {sc : Scope} {es : List Expr} (hc : chkA N sc m es = true) {X : Cx} {W : WX} {k : Nat} (cx : CxOk N sc k X) (tk : Takes X W) (gk : GOk G (ctOf X) k)
    {σ : Sto} {H Z : Hp} {env : Env} {F : Nat → FS} {P : List (Nat × V)} (R : Rel (ctOf X) σ H Z env F P) (nb : evA G m env ≠ .bad) (rx : Rx (ctOf X) W σ H Z env F P (evA G m env)) {Q : List V → Hp → Prop}
    (ok : ∀ as env', evA G m env = .ok as env' → ∀ vs H' Z' F' U, Ox (ctOf X) σ H Z env F P (quiet m) H' Z' env' F' U → ArgsR (ctOf X) σ H' Z' env' F' as vs U → Q vs H') : argsT X es σ H Q := by
  cases es with
  | nil =>
    cases m with
    | nil => exact ok [] env rfl [] H Z F _ (Ox.nil (Nx.refl R) fun _ => ⟨Same.refl H, rfl, rfl⟩) (.nil fun _ x => x)
    | _ => simp [chkA] at hc
  | cons e es => exact ha N sc _ hc X W k cx tk gk σ H Z env F P R nb rx Q ok
section
variable {G : Gl}
theorem sd_meth {l args : E} {c m : Str} (hl : SdL G l) (ha : SdA G args) : SdO G (.meth l c m args) := by
  intro N sc e hc X W k cx tk gk σ H Z env F P R nb rx Q ok
  have sh : ∃ x name apos ys pos, e = .Call (.Attribute x name apos) ys [] pos := by
    unfold chkO at hc
    split at hc <;> first | contradiction | exact ⟨_, _, _, _, _, rfl⟩ | exact ⟨_, _, _, _, _, by assumption⟩
  obtain ⟨x, name, apos, ys, pos, rfl⟩ := sh
  simp only [chkO, Bool.and_eq_true, decide_eq_true_eq] at hc
  obtain ⟨⟨⟨⟨⟨rfl, cl⟩, ca⟩, pb⟩, hln⟩, hn⟩ := hc
  simp only [evO] at nb rx ok
  cases hf : G.me c m with
  | none => rw [hf] at nb; exact absurd rfl nb
  | some Fd =>
    rw [hf] at nb rx ok
    simp only at nb rx ok
    obtain ⟨A, a, fd, ps, h1, h2, h3, h4, h5, h6⟩ := gk.me c m Fd hf
    refine wE_of (pe_methG h2 h3 h6 cx.room cx.guards h4 tk pb hln (chkA_star ca) hn) ?_
    refine hl N sc x cl X W k cx tk gk σ H Z env F P R (bind_nb nb) (rx.next (Nx.refl R) fun z env' h => bind_rx h) _ fun q env1 e1 v H1 Z1 F1 n1 q1 pl => ?_
    rw [e1] at nb rx ok
    simp only [bind_ok] at nb rx ok
    by_cases hlt : (late q args && isIns env1 q c m) = false
    · rw [if_pos hlt] at nb; exact absurd rfl nb
    rw [if_neg hlt] at nb rx ok
    rw [Bool.not_eq_false, Bool.and_eq_true] at hlt
    obtain ⟨hlt, hins⟩ := hlt
    obtain ⟨t1, U1, rd, o, sub⟩ := pl.read
    have isin : ∃ fts, t1 = .ins c fts ∧ lookA fts m = none := by
      unfold isIns at hins
      rw [rd] at hins
      cases t1 with
      | ins c' fs =>
        simp only [Bool.and_eq_true, decide_eq_true_eq, Option.isNone_iff_eq_none] at hins
        exact ⟨fs, by rw [hins.1], hins.2⟩
      | _ => cases hins
    obtain ⟨fts, rfl, hlk⟩ := isin
    cases o with
    | @ins a0 dx A' c' fs fts' S U hm hA hdx hfs ow na nd hU =>
      have eA : A' = A := by
        have := hm.symm.trans h1
        simpa using this
      subst eA
      have hlook : fs.lookup m = none := by
        have : ∀ (fs : List (Str × V)) (fts : List (Str × T)), fs.map (·.1) = fts.map (·.1) → lookA fts m = none → fs.lookup m = none := by
          intro fs
          induction fs with
          | nil => intro _ _ _; rfl
          | cons p fs ih =>
            intro fts h hl
            cases fts with
            | nil => simp at h
            | cons r fts =>
              simp only [List.map_cons, List.cons.injEq] at h
              obtain ⟨g, x⟩ := p
              obtain ⟨g', y⟩ := r
              simp only at h
              simp only [lookA] at hl
              by_cases q : g' = m
              · rw [if_pos q] at hl; cases hl
              · rw [if_neg q] at hl
                rw [List.lookup_cons, h.1]
                have : (m == g') = false := by simp; exact fun z => q z.symm
                rw [this]
                exact ih fts h.2 hl
        exact this fs fts hfs hlk
      refine ⟨a0, dx, fs, rfl, hA, hlook, ?_⟩
      have x1 : Ox (ctOf X) σ H Z env F P (quiet l) H1 Z1 env1 F1 (fun _ => False) := Ox.nil n1 q1
      refine sd_args ha ca cx tk gk n1.rel (bind_nb nb) (rx.next n1 fun z env' h => bind_rx h) fun as env2 e2 vs H2 Z2 F2 U2 x2 o2 => ?_
      rw [e2] at nb rx ok
      simp only [bind_ok] at nb rx ok
      by_cases hs : ((AV.pth (rwF Fd) q.1 q.2).tree env2).isSome
      case neg => rw [if_neg hs] at nb; exact absurd rfl nb
      rw [if_pos hs] at nb rx ok
      obtain ⟨xx, dj⟩ := x1.two x2
      have ar : ArgsR (ctOf X) σ H2 Z2 env2 F2 (.pth (rwF Fd) q.1 q.2 :: as) (.ref a0 :: vs) (fun b => False ∨ U2 b) := by
        refine ArgsR.ext (U := U2) (.pth (pl.late x2.n ?_ ?_) hs o2) fun b => ⟨fun z => z.elim False.elim id, .inr⟩
        · unfold late at hlt
          rw [Bool.or_eq_true] at hlt
          exact hlt.imp (fun z => by simpa using z) x2.q
        · cases hrw : rwF Fd with
          | false => rw [hrw] at hs; exact hs
          | true =>
            rw [hrw] at hs
            simp only [AV.tree] at hs
            cases q5 : ownP env2 q.1 q.2 with
            | none => rw [q5] at hs; cases hs
            | some t => rw [readP_own q5]; rfl
      exact call_sp xx ar nb rx fun t env' e3 v H' Z' F' U y o => ok t env' e3 v H' Z' F' U ⟨y.n, y.live, y.ap, y.zf, y.st, fun z => by simp [quiet] at z⟩ o
theorem ArgsR.later {C : Ct} {σ : Sto} {H Z H' : Hp} {env : Env} {F : Nat → FS} {P : List (Nat × V)} (n : Nx C σ H Z env F P H' Z env F) (same : Same H H') : ∀ {as : List AV} {vs : List V} {U : FS}, ArgsR C σ H Z env F as vs U → ArgsR C σ H' Z env F as vs U
  | _, _, _, .nil h => .nil h
  | _, _, _, .val o r d e => .val (o.keep (Same.refl Z) fun b _ u z => same b u z) (ArgsR.later n same r) d e
  | _, _, _, .pth (rw := rw) (r := r0) (p := p0) pl hs r => by
    refine .pth (pl.late n (.inr ⟨same, rfl, rfl⟩) ?_) hs (ArgsR.later n same r)
    cases rw with
    | false => exact hs
    | true =>
      simp only [AV.tree] at hs
      cases q : ownP env r0 p0 with
      | none => rw [q] at hs; cases hs
      | some t => rw [readP_own q]; rfl
theorem noRw_args : ∀ {ms : List Mode} {as : List AV}, (ms.any fun m => decide (m = .rw)) = false → modeOk ms as = true → ∀ a ∈ as, ∀ r p, a ≠ AV.pth true r p
  | [], [], _, _ => fun a h => by cases h
  | [], _ :: _, _, h => by simp [modeOk] at h
  | m :: ms, [], _, h => by cases m <;> simp [modeOk] at h
  | m :: ms, a :: as, hn, h => by
    simp only [List.any_cons, Bool.or_eq_false_iff, decide_eq_false_iff_not] at hn
    intro x hx r p e
    have h2 : modeOk ms as = true := by
      cases a with
      | val t => cases m <;> first | (simpa [modeOk] using h) | (simp [modeOk] at h)
      | pth rw r p => cases rw <;> cases m <;> first | (simpa [modeOk] using h) | (simp [modeOk] at h)
    rcases List.mem_cons.mp hx with rfl | hx
    · subst e
      cases m <;> first | exact hn.1 rfl | simp [modeOk] at h
    · exact noRw_args hn.2 h2 x hx r p e
theorem sd_make {args : E} {c : Str} (ha : SdA G args) : SdO G (.make c args) := by
  intro N sc e hc X W k cx tk gk σ H Z env F P R nb rx Q ok
  have sh : ∃ x p ys pos, e = .Call (.Name x p) ys [] pos := by
    unfold chkO at hc
    split at hc <;> first | contradiction | exact ⟨_, _, _, _, rfl⟩ | exact ⟨_, _, _, _, by assumption⟩
  obtain ⟨x, p, ys, pos, rfl⟩ := sh
  simp only [chkO, Bool.and_eq_true, decide_eq_true_eq] at hc
  obtain ⟨⟨rfl, hg⟩, ca⟩ := hc
  obtain ⟨g1, g2, g3⟩ := globB_gl cx hg
  simp only [evO] at nb rx ok
  cases hf : G.ini c with
  | none =>
    have : makeF G c = none := by unfold makeF; rw [hf]; rfl
    rw [this] at nb; exact absurd rfl nb
  | some F0 =>
    obtain ⟨A, f, fd, ps, ms, j, rfl, hm, M, hb, hps, hmo, fok⟩ := gk.ini c F0 hf
    cases hrwn : (ms.any fun m => decide (m = .rw)) with
    | true =>
      have : makeF G c = none := by unfold makeF; rw [hf]; simp only [Option.bind_some, hmo, hrwn, if_true]
      rw [this] at nb; exact absurd rfl nb
    | false =>
      have hmk : makeF G c = some { modes := ms, run := fun ts => match F0.run (.ins c [] :: ts) with
        | .ok (.fz .none) (self :: ts') => .ok self ts'
        | .raise x ts' => .raise x ts'.tail
        | _ => .bad } := by unfold makeF; rw [hf]; simp only [Option.bind_some, hmo, hrwn]; rfl
      rw [hmk] at nb rx ok
      simp only at nb rx ok
      refine wE_of (pe_makeG M fok cx.room cx.guards g1 hm hb tk g2 (chkA_star ca)) ?_
      refine sd_args ha ca cx tk gk R (bind_nb nb) (rx.next (Nx.refl R) fun z env' h => bind_rx h) fun as env1 e1 vs H1 Z1 F1 U1 x1 o1 => ?_
      rw [e1] at nb rx ok
      simp only [bind_ok] at nb rx ok
      intro xa dx hx hdx hne
      obtain ⟨xx1, n1⟩ := x1.into (p := dx) (o := .own xa) (q' := false) hdx fun z => by cases z
      have hx' : upd H1 dx (.own xa) xa = none := by rw [upd_ne (fun z => hne z.symm)]; exact hx
      obtain ⟨xx2, n2⟩ := xx1.into (p := xa) (o := .ins A dx []) (q' := false) hx' fun z => by cases z
      have same : Same H1 (upd (upd H1 dx (.own xa)) xa (.ins A dx [])) := fun b o z => by
        rw [upd_ne (fun q => by subst q; rw [hx] at z; cases z), upd_ne (fun q => by subst q; rw [hdx] at z; cases z)]
        exact z
      have nn : Nx (ctOf X) σ H1 Z1 env1 F1 P (upd (upd H1 dx (.own xa)) xa (.ins A dx [])) Z1 env1 F1 :=
        ⟨xx2.n.rel, ⟨Same.refl _, fun b o z _ => same b o z, fun b z => .inl z, fun b o z => .inl z⟩, fun j b z => .inl ⟨j, z⟩, fun _ _ => ⟨Iff.rfl, fun _ => rfl⟩⟩
      have o1' := ArgsR.later nn same o1
      have own0 : Own (ctOf X) false (upd (upd H1 dx (.own xa)) xa (.ins A dx [])) Z1 (.ref xa) (.ins c []) (fun b => b = xa ∨ b = dx) :=
        .ins (S := fun _ => False) hm upd_same (by rw [upd_ne hne, upd_same]) rfl (.nil fun _ z => z) (fun z => z) (fun z => z) fun b => ⟨fun z => z.elim .inl fun z => .inr (.inl z), fun z => z.elim .inl fun z => z.elim .inr False.elim⟩
      have ar : ArgsR (ctOf X) σ (upd (upd H1 dx (.own xa)) xa (.ins A dx [])) Z1 env1 F1 (.val (.ins c []) :: as) (.ref xa :: vs) (fun b => b = xa ∨ b = dx ∨ U1 b) :=
        .val own0 o1' (fun b z y => by
          rcases z with rfl | rfl
          · exact n2 (.inr y)
          · exact n1 y) fun b => ⟨fun z => z.elim (fun z => .inl (.inl z)) fun z => z.elim (fun z => .inl (.inr z)) .inr, fun z => z.elim (fun z => z.elim .inl fun z => .inr (.inl z)) fun z => .inr (.inr z)⟩
      unfold callF at nb rx ok
      simp only at nb rx ok
      by_cases hcc : (modeOk ms as && rootsOk as) = true
      case neg => rw [if_neg hcc] at nb; exact absurd rfl nb
      rw [if_pos hcc] at nb rx ok
      rw [Bool.and_eq_true] at hcc
      cases ht : treesOf env1 as with
      | none => rw [ht] at nb; exact absurd rfl nb
      | some ts =>
        rw [ht] at nb rx ok
        simp only at nb rx ok
        have hts : treesOf env1 (.val (.ins c []) :: as) = some (.ins c [] :: ts) := by simp only [treesOf, AV.tree, ht]
        have hmv : modeOk (.val :: ms) (.val (.ins c []) :: as) = true := hcc.1
        have hrv : rootsOk (.val (.ins c []) :: as) = true := hcc.2
        obtain ⟨l1, l2, Uf, R', c1, c2, c3⟩ := args_rel xx2.n.rel ar xx2.ap xx2.zf hmv hrv hts
        have noA := noRw_args hrwn hcc.1
        refine ⟨by rw [hmo]; exact l2, Z1, .ins c [] :: ts, Uf, by rw [hmo]; exact l1, by rw [hmo]; exact R', ?_⟩
        have rwV : ∀ (ts2 : List T) (H' Z' : Hp), RwOk (ctOf X) (.val :: ms) (.ref xa :: vs) ts2 H' Z' (fun _ => False) := fun ts2 H' Z' => ⟨fun i w hi _ => by
          cases i with
          | zero => simp at hi
          | succ i =>
            have hmem : Mode.rw ∈ ms := List.mem_of_getElem? (by simpa using hi)
            rw [List.any_eq_false] at hrwn
            exact absurd (decide_eq_true rfl) (hrwn _ hmem), fun _ b z => z, fun b z => z.elim⟩
        cases hrun : F0.run (.ins c [] :: ts) with
        | bad => rw [hrun] at nb; exact absurd rfl nb
        | ok r ts2 =>
          rw [hrun] at nb ok
          have sh2 : r = .fz .none ∧ ∃ self ts3, ts2 = self :: ts3 := by
            cases r with
            | fz d =>
              cases d with
              | none =>
                cases ts2 with
                | nil => exact absurd rfl nb
                | cons a b => exact ⟨rfl, a, b, rfl⟩
              | _ => exact absurd rfl nb
            | _ => exact absurd rfl nb
          obtain ⟨rfl, self, ts3, rfl⟩ := sh2
          simp only at nb ok ⊢
          cases hb2 : backA env1 as ts3 with
          | none => rw [hb2] at nb; exact absurd rfl nb
          | some env' =>
            rw [hb2] at ok
            intro v H' Z' Ur Uw o rw dj zr zs st
            rw [hmo] at rw st
            have urn : ∀ b, ¬ Ur b := by
              cases o with
              | fz d q => exact q
            have hv : v = .non := by
              cases o with
              | fz d q => cases d; rfl
            subst hv
            obtain ⟨t', g1', g2'⟩ := rw.1 0 (.ref xa) rfl rfl
            have eT : self = t' := Option.some.inj g1'
            subst eT
            obtain ⟨F', y⟩ := call_after (Ur := Uw) (Uw := fun _ => False) (ts' := self :: ts3) xx2 hmv hrv c2 c3 (rwV _ H' Z') (fun _ _ z => z) rw.2.2 g2'.live zs (st.mono (fun _ z => z) fun b z => z.elim (fun y => .inl (.inr y)) False.elim) (env' := env') hb2
            exact ⟨rfl, ok self env' rfl (.ref xa) H' Z' F' Uw ⟨y.n, y.live, y.ap, y.zf, y.st, fun z => by simp [quiet] at z⟩ g2'⟩
        | raise xn ts2 =>
          rw [hrun] at nb rx
          simp only at nb rx ⊢
          cases hb2 : backA env1 as ts2.tail with
          | none => rw [hb2] at nb; exact absurd rfl nb
          | some env' =>
            rw [hb2] at rx
            intro cls dd H' Z' Uw xr rw zs st
            rw [hmo] at rw st
            obtain ⟨t', g1', g2'⟩ := rw.1 0 (.ref xa) rfl rfl
            cases ts2 with
            | nil => simp at g1'
            | cons s0 ts3 =>
              obtain ⟨F', y⟩ := call_after (Ur := fun _ => False) (Uw := fun _ => False) (ts' := s0 :: ts3) xx2 hmv hrv c2 c3 (rwV _ H' Z') (fun _ z => z.elim) (fun _ z => z.elim) (fun _ z => z.elim) zs (st.mono (fun _ z => z) fun b z => z.elim False.elim False.elim) (env' := env') hb2
              exact rx xn env' rfl H' Z' F' cls dd y.n xr
theorem sd_methT {o args : E} {c m : Str} (ho : SdO G o) (ha : SdA G args) : SdO G (.methT o c m args) := by
  intro N sc e hc X W k cx tk gk σ H Z env F P R nb rx Q ok
  have sh : ∃ x name apos ys pos, e = .Call (.Attribute x name apos) ys [] pos := by
    unfold chkO at hc
    split at hc <;> first | contradiction | exact ⟨_, _, _, _, _, rfl⟩ | exact ⟨_, _, _, _, _, by assumption⟩
  obtain ⟨x, name, apos, ys, pos, rfl⟩ := sh
  simp only [chkO, Bool.and_eq_true, decide_eq_true_eq] at hc
  obtain ⟨⟨⟨⟨⟨rfl, co⟩, ca⟩, pb⟩, hln⟩, hn⟩ := hc
  simp only [evO] at nb rx ok
  cases hf : G.me c m with
  | none => rw [hf] at nb; exact absurd rfl nb
  | some F0 =>
    rw [hf] at nb rx ok
    simp only at nb rx ok
    obtain ⟨A, a, fd, ps, h1, h2, h3, h4, h5, h6⟩ := gk.me c m F0 hf
    refine wE_of (pe_methG h2 h3 h6 cx.room cx.guards h4 tk pb hln (chkA_star ca) hn) ?_
    refine ho N sc x co X W k cx tk gk σ H Z env F P R (bind_nb nb) (rx.next (Nx.refl R) fun z env' h => bind_rx h) _ fun t env1 e1 v H1 Z1 F1 Ut x1 o => ?_
    rw [e1] at nb rx ok
    simp only [bind_ok] at nb rx ok
    by_cases hins : isInsT t c m = false
    · rw [if_pos hins] at nb; exact absurd rfl nb
    rw [if_neg hins] at nb rx ok
    rw [Bool.not_eq_false] at hins
    have isin : ∃ fts, t = .ins c fts ∧ lookA fts m = none := by
      unfold isInsT at hins
      cases t with
      | ins c' fs =>
        simp only [Bool.and_eq_true, decide_eq_true_eq, Option.isNone_iff_eq_none] at hins
        exact ⟨fs, by rw [hins.1], hins.2⟩
      | _ => cases hins
    obtain ⟨fts, rfl, hlk⟩ := isin
    have oo := o
    cases o with
    | @ins a0 dx A' c' fs fts' S U hm hA hdx hfs ow na nd hU =>
      have eA : A' = A := by
        have := hm.symm.trans h1
        simpa using this
      subst eA
      have hlook : fs.lookup m = none := by
        have : ∀ (fs : List (Str × V)) (fts : List (Str × T)), fs.map (·.1) = fts.map (·.1) → lookA fts m = none → fs.lookup m = none := by
          intro fs
          induction fs with
          | nil => intro _ _ _; rfl
          | cons p fs ih =>
            intro fts h hl
            cases fts with
            | nil => simp at h
            | cons r fts =>
              simp only [List.map_cons, List.cons.injEq] at h
              obtain ⟨g, x⟩ := p
              obtain ⟨g', y⟩ := r
              simp only at h
              simp only [lookA] at hl
              by_cases q : g' = m
              · rw [if_pos q] at hl; cases hl
              · rw [if_neg q] at hl
                rw [List.lookup_cons, h.1]
                have : (m == g') = false := by simp; exact fun z => q z.symm
                rw [this]
                exact ih fts h.2 hl
        exact this fs fts hfs hlk
      refine ⟨a0, dx, fs, rfl, hA, hlook, ?_⟩
      refine sd_args ha ca cx tk gk x1.n.rel (bind_nb nb) (rx.next x1.n fun z env' h => bind_rx h) fun as env2 e2 vs H2 Z2 F2 U2 x2 o2 => ?_
      rw [e2] at nb rx ok
      simp only [bind_ok] at nb rx ok
      obtain ⟨xx, dj⟩ := x1.two x2
      have ar : ArgsR (ctOf X) σ H2 Z2 env2 F2 (.val (.ins c fts) :: as) (.ref a0 :: vs) (fun b => Ut b ∨ U2 b) := .val (x2.st.own oo x1.ap.af) o2 dj fun b => Iff.rfl
      cases hsf : selfF F0 with
      | none => rw [hsf] at nb; exact absurd rfl nb
      | some Fd =>
        rw [hsf] at nb rx ok
        simp only at nb rx ok
        have fin := call_sp xx ar nb rx fun t env' e3 v H' Z' F' U y o => ok t env' e3 v H' Z' F' U ⟨y.n, y.live, y.ap, y.zf, y.st, fun z => by simp [quiet] at z⟩ o
        unfold selfF at hsf
        split at hsf
        · rename_i ms hmo
          split at hsf
          · cases hsf
          · rename_i hrwn
            rw [Bool.not_eq_true] at hrwn
            cases hsf
            obtain ⟨f1, Zs, ts, Uf, f2, f3, f4⟩ := fin
            refine ⟨by rw [hmo]; exact f1, Zs, ts, Uf, by rw [hmo]; exact f2, ?_, ?_⟩
            · have e5 : slotsOf F0.modes ts = slotsOf (.val :: ms) ts := by rw [hmo]; cases ts <;> rfl
              rw [e5]
              exact f3
            · have e5 : slotsOf F0.modes ts = slotsOf (.val :: ms) ts := by rw [hmo]; cases ts <;> rfl
              simp only at f4
              have rwV : ∀ (ts2 : List T) (H' Z' : Hp), RwOk (ctOf X) (.val :: ms) (.ref a0 :: vs) ts2 H' Z' (fun _ => False) := fun ts2 H' Z' => ⟨fun i w hi _ => by
                cases i with
                | zero => simp at hi
                | succ i =>
                  have hmem : Mode.rw ∈ ms := List.mem_of_getElem? (by simpa using hi)
                  rw [List.any_eq_false] at hrwn
                  exact absurd (decide_eq_true rfl) (hrwn _ hmem), fun _ b z => z, fun b z => z.elim⟩
              cases hrun : F0.run ts with
              | bad => rw [hrun] at f4; exact f4
              | ok r ts2 =>
                rw [hrun] at f4
                simp only at f4 ⊢
                intro v H' Z' Ur Uw o rw dj zr zs st
                rw [e5] at st
                exact f4 v H' Z' Ur (fun _ => False) o (rwV _ _ _) (fun _ _ z => z) zr zs (st.mono (fun _ z => z) fun b z => z.elim (fun y => .inl (.inl y)) False.elim)
              | raise xn ts2 =>
                rw [hrun] at f4
                simp only at f4 ⊢
                intro cls dd H' Z' Uw xr rw zs st
                rw [e5] at st
                exact f4 cls dd H' Z' (fun _ => False) xr (rwV _ _ _) zs (st.mono (fun _ z => z) fun b z => z.elim)
        · cases hsf
          exact fin
        · cases hsf
end
end Mp

end
section
set_option Elab.async false
set_option linter.all false
set_option maxRecDepth 100000
set_option autoImplicit false
/-! MiniPy, part V: statements, the simple ones. -/
namespace Mp
open PySem PySem.Spec PyProof.Rows L2

/-- no comprehension -/
def plC : Expr → Bool
  | .ListComp _ _ _ _ => false
  | .SetComp _ _ _ _ => false
  | .DictComp _ _ _ _ _ => false
  | _ => true
def isComp : E → Bool
  | .ocomp _ _ _ _ _ => true
  | .ofz (.ofr (.ocomp _ _ _ _ _)) => true
  | _ => false
def noPin (pn : List Nat) (m : E) : Bool := (tgtsOf m).all fun i => !pn.contains i
/-! except suites -/
mutual
def chkHx (N : List Str) (sc : Scope) (i : Option Nat) : Hx → Expr → Bool
  | .con d, .Constant c _ _ => match conD c with
    | some d' => sameC d' d
    | none => false
  | .fld f, .Attribute (.Name x _) g _ => decide (f = g) && (match i with | some i => nameB N sc i x | none => false)
  | .isi c, .Call (.Name x _) [.Name y _, .Name z _] [] _ => decide (x = ("isinstance" : Str)) && globB sc x && decide (z = c) && globB sc z && (match i with | some i => nameB N sc i y | none => false)
  | .tup es, .Tuple xs _ _ => chkHxs N sc i es xs
  | .and a b, .BoolOp .And (x :: y :: r) p => chkHx N sc i a x && chkHx N sc i b (.BoolOp .And (y :: r) p)
  | .or a b, .BoolOp .Or (x :: y :: r) p => chkHx N sc i a x && chkHx N sc i b (.BoolOp .Or (y :: r) p)
  | .not a, .UnaryOp .Not x _ => chkHx N sc i a x
  | .one a, .BoolOp _ [x] _ => chkHx N sc i a x
  | _, _ => false
def chkHxs (N : List Str) (sc : Scope) (i : Option Nat) : Hx → List Expr → Bool
  | .nil, [] => true
  | .cons a r, x :: xs => chkHx N sc i a x && chkHxs N sc i r xs && plS x
  | _, _ => false
end
def chkHt (N : List Str) (sc : Scope) (i : Option Nat) : Hx → Expr → Bool
  | .and a b, .BoolOp .And (x :: y :: r) p => chkHt N sc i a x && chkHt N sc i b (.BoolOp .And (y :: r) p)
  | .or a b, .BoolOp .Or (x :: y :: r) p => chkHt N sc i a x && chkHt N sc i b (.BoolOp .Or (y :: r) p)
  | .not a, .UnaryOp .Not x _ => chkHt N sc i a x
  | .one a, .BoolOp _ [x] _ => chkHt N sc i a x
  | .isi c, e => chkHx N sc i (.isi c) e && plT e
  | _, _ => false
def chkHs (N : List Str) (sc : Scope) (i : Option Nat) : Hs → List Stmt → Bool
  | .fall, [] => true
  | .ret a, [.Return (some e) _] => chkHx N sc i a e
  | .ifr c a r, .If t [.Return (some e) _] [] _ :: rest => chkHt N sc i c t && chkHx N sc i a e && chkHs N sc i r rest
  | _, _ => false
def nmB (N : List Str) (sc : Scope) (pn : List Nat) : Option Nat → Option Str → Bool
  | none, none => true
  | some i, some n => decide (N[i]? = some n) && decide (sc.names.lookup n = some .local) && !pn.contains i
  | _, _ => false
def chkHds (N : List Str) (sc : Scope) (pn : List Nat) : Hds → List ExceptHandler → Bool
  | .nil, [] => true
  | .cons c i b r, .ExceptHandler (some (.Name x _)) nm (s0 :: su) _ :: hl => decide (x = c) && globB sc x && nmB N sc pn i nm && chkHs N sc i b (s0 :: su) && chkHds N sc pn r hl
  | _, _ => false
def isHd : Hds → Bool
  | .nil => false
  | _ => true
mutual
def chkS (N : List Str) (sc : Scope) (pn : List Nat) : S → List Stmt → Bool
  | .skip, [] => true
  | .seq a b, s :: r => chk1 N sc pn a s && chkS N sc pn b r
  | _, _ => false
def chk1 (N : List Str) (sc : Scope) (pn : List Nat) : S → Stmt → Bool
  | .nev, _ => true
  | .pss, .Pass _ => true
  | .pss, .Expr (.Constant (.str _) _ _) _ => true
  | .asg i o, .Assign [.Name x _] e _ => locB N sc (fun _ => true) i x && !pn.contains i && chkO N sc o e && (plC e || isComp o)
  | .setix l a o, .Assign [.Subscript b i _] e _ => chkL N sc l b && chkE N sc a i && plI i && chkO N sc o e
  | .setfld l f o, .Assign [.Attribute b g _] e _ => decide (f = g) && chkL N sc l b && chkO N sc o e
  | .ex a, .Expr e _ => chkE N sc a e && plC e
  | .ret o, .Return (some e) _ => chkO N sc o e
  | .retN, .Return none _ => true
  | .iff c a b, .If c' a' b' _ => chkT N sc c c' && chkS N sc pn a a' && chkS N sc pn b b'
  | .whil c b, .While c' b' [] _ => chkT N sc c c' && chkS N sc pn b b'
  | .fo tg it b, .For tg' it' b' [] _ => chkI N sc it it' && chkB N sc (fun _ => true) tg tg' && noPin pn tg && chkS N sc pn b b'
  | .brk, .Break _ => true
  | .raise c es, .Raise (some (.Call (.Name x _) (y :: ys) [] _)) none _ => decide (c = x) && globB sc x && chkEs N sc es (y :: ys) && stabs es
  | .tryx b h, .Try body hl [] [] _ => chkS N sc pn b body && chkHds N sc pn h hl && isHd h
  | .cont, .Continue _ => true
  | .nick i l, .Assign [.Name x _] e _ => locB N sc (fun _ => true) i x && !pn.contains i && chkL N sc l e && plC e
  | .asgT tg a, .Assign [.Tuple xs kk p] e _ => chkB N sc (fun _ => true) tg (.Tuple xs kk p) && noPin pn tg && chkE N sc a e && stab a && (match e with | .Tuple _ _ _ => false | _ => true) && plC e
  | _, _ => false
end

/-! ### what is said of statements -/
structure NxS (C : Ct) (σ : Sto) (H Z : Hp) (env : Env) (F : Nat → FS) (P : List (Nat × V)) (σ' : Sto) (H' Z' : Hp) (env' : Env) (F' : Nat → FS) : Prop where
  rel : Rel C σ' H' Z' env' F' P
  stp : Stp H Z (Af env F) H' Z' (Af env' F')
  all : ∀ j b, F' j b → (∃ i, F i b) ∨ H b = none
  rok : ∀ (i : Nat) t, (env[i]? = some (Sl.ro t) ↔ env'[i]? = some (Sl.ro t)) ∧ (env[i]? = some (Sl.ro t) → F' i = F i ∧ σ'[i]? = σ[i]?)
/-- .. with a value that stands apart -/
structure OxS (C : Ct) (σ : Sto) (H Z : Hp) (env : Env) (F : Nat → FS) (P : List (Nat × V)) (σ' : Sto) (H' Z' : Hp) (env' : Env) (F' : Nat → FS) (U : FS) : Prop where
  n : NxS C σ H Z env F P σ' H' Z' env' F'
  live : ∀ b, U b → ∃ o, H' b = some o
  ap : Apt F' U
  zf : ∀ b, U b → Z' b = none
  st : Stp H Z (Af env F) H' Z' (fun b => Af env' F' b ∨ U b)
section
variable {C : Ct} {σ σ1 σ2 : Sto} {H Z H1 Z1 H2 Z2 : Hp} {env env1 env2 : Env} {F F1 F2 : Nat → FS} {P : List (Nat × V)} {U : FS} {q : Bool}
theorem Nx.st (n : Nx C σ H Z env F P H1 Z1 env1 F1) : NxS C σ H Z env F P σ H1 Z1 env1 F1 := ⟨n.rel, n.stp, n.all, fun i t => ⟨(n.rok i t).1, fun h => ⟨(n.rok i t).2 h, rfl⟩⟩⟩
theorem Ox.sx (a : Ox C σ H Z env F P q H1 Z1 env1 F1 U) : OxS C σ H Z env F P σ H1 Z1 env1 F1 U := ⟨a.n.st, a.live, a.ap, a.zf, a.st⟩
theorem NxS.refl (R : Rel C σ H Z env F P) : NxS C σ H Z env F P σ H Z env F := (Nx.refl R).st
theorem NxS.trans (a : NxS C σ H Z env F P σ1 H1 Z1 env1 F1) (b : NxS C σ1 H1 Z1 env1 F1 P σ2 H2 Z2 env2 F2) : NxS C σ H Z env F P σ2 H2 Z2 env2 F2 where
  rel := b.rel
  stp := a.stp.trans b.stp
  all := fun j c h => by
    rcases b.all j c h with ⟨i, x⟩ | x
    · exact a.all i c x
    · exact (a.stp.dead x).imp (fun ⟨i, _, y⟩ => ⟨i, y⟩) id
  rok := fun i t => ⟨(a.rok i t).1.trans (b.rok i t).1, fun h => by
    obtain ⟨x1, x2⟩ := (a.rok i t).2 h
    obtain ⟨y1, y2⟩ := (b.rok i t).2 ((a.rok i t).1.mp h)
    exact ⟨y1.trans x1, y2.trans x2⟩⟩
theorem NxS.ox (a : NxS C σ H Z env F P σ1 H1 Z1 env1 F1) (b : OxS C σ1 H1 Z1 env1 F1 P σ2 H2 Z2 env2 F2 U) : OxS C σ H Z env F P σ2 H2 Z2 env2 F2 U := ⟨a.trans b.n, b.live, b.ap, b.zf, a.stp.trans b.st⟩
/-- a tree is stored to a name -/
theorem Ox.store (x : Ox C σ H Z env F P q H1 Z1 env1 F1 U) {i : Nat} {v : V} {t : T} (o : Own C false H1 Z1 v t U) (h : setT env1 i t = some env2) (hP : ∀ q ∈ P, q.1 ≠ i) : NxS C σ H Z env F P (σ.set i (some v)) H1 Z1 env2 (upF F1 i U) := by
  obtain ⟨R', m⟩ := x.n.rel.store h o x.ap x.zf hP
  refine ⟨R', x.st.trans m.stp, fun j b y => ?_, fun j t0 => ⟨(x.n.rok j t0).1.trans (m.rok j t0).1, fun e => ?_⟩⟩
  · rcases m.sub j b y with z | z
    · exact x.n.all j b z
    · exact (x.st.new b (.inr z)).imp (fun ⟨i, _, y⟩ => ⟨i, y⟩) id
  · have e1 := (x.n.rok j t0).1.mp e
    refine ⟨((m.rok j t0).2 e1).trans ((x.n.rok j t0).2 e), m.frm j fun z => ?_⟩
    have ej : j = i := by simpa using z
    subst ej
    exact (setT_some h).2.1 t0 e1
theorem Mv.nx {ts : List Nat} (R : Rel C σ H Z env F P) (R' : Rel C σ1 H Z env1 F1 P) (m : Mv ts σ env F σ1 env1 F1 (fun _ => False)) : NxS C σ H Z env F P σ1 H Z env1 F1 :=
  ⟨R', ⟨Same.refl Z, fun _ _ h _ => h, fun b x => .inl ((m.own b x).elim id False.elim), fun _ _ h => .inl h⟩, fun j b x => .inl ⟨j, (m.sub j b x).elim id False.elim⟩, fun j t => ⟨(m.rok j t).1, fun h => ⟨(m.rok j t).2 h, m.ros j t h⟩⟩⟩
end
end Mp

end
section
set_option Elab.async false
set_option linter.all false
set_option maxRecDepth 100000
set_option autoImplicit false
/-! MiniPy, part W: statements are sound. -/
namespace Mp
open PySem PySem.Spec PyProof.Rows L2

def wS (X : Cx) (st : List Stmt) : TS := fun D σ H => ∀ (pins : List (Addr × Obj)) (s : Shared), L2.Inv X pins σ H s → wpAny (model X.prog X.w) X.A (execs st X.env) (SP X pins D) X.xe s
def w1 (X : Cx) (st : Stmt) : TS := fun D σ H => ∀ (pins : List (Addr × Obj)) (s : Shared), L2.Inv X pins σ H s → wpAny (model X.prog X.w) X.A (exec st X.env) (SP X pins D) X.xe s
section
variable {X : Cx} {σ : Sto} {H : Hp} {D : Ends}
theorem pss_w {st : List Stmt} : PSs X st (wS X st) := ⟨fun pins s σ H D I h => h pins s I⟩
theorem ps_w {st : Stmt} : PS X st (w1 X st) := ⟨fun pins s σ H D I h => h pins s I⟩
theorem wS_of {st : List Stmt} {t : TS} (h : PSs X st t) (q : t D σ H) : wS X st D σ H := fun pins s I => h.run pins s σ H D I q
theorem w1_of {st : Stmt} {t : TS} (h : PS X st t) (q : t D σ H) : w1 X st D σ H := fun pins s I => h.run pins s σ H D I q
end
/-- every end of the statements meets its wish -/
def EndsOk (C : Ct) (σ : Sto) (H Z : Hp) (env : Env) (F : Nat → FS) (P : List (Nat × V)) (D : Ends) (r : Res Fl) : Prop :=
  (∀ env', r = .ok .nx env' → ∀ σ' H' Z' F', NxS C σ H Z env F P σ' H' Z' env' F' → D.nx σ' H') ∧ (∀ env', r = .ok .bk env' → ∀ σ' H' Z' F', NxS C σ H Z env F P σ' H' Z' env' F' → D.bk σ' H') ∧
  (∀ env', r = .ok .ct env' → ∀ σ' H' Z' F', NxS C σ H Z env F P σ' H' Z' env' F' → D.ct σ' H') ∧ ∀ t env', r = .ok (.ret t) env' → ∀ v σ' H' Z' F' U, OxS C σ H Z env F P σ' H' Z' env' F' U → Own C false H' Z' v t U → D.rt v H'
def RxS (C : Ct) (W : WX) (σ : Sto) (H Z : Hp) (env : Env) (F : Nat → FS) (P : List (Nat × V)) {α : Type} (r : Res α) : Prop :=
  ∀ x env', r = .raise x env' → ∀ σ' H' Z' F' cls dd, NxS C σ H Z env F P σ' H' Z' env' F' → XRel C H' Z' x cls dd → W cls dd σ' H'
section
variable {C : Ct} {W : WX} {σ σ1 : Sto} {H Z H1 Z1 : Hp} {env env1 : Env} {F F1 : Nat → FS} {P : List (Nat × V)} {D : Ends}
theorem RxS.rx {α β : Type} {r : Res α} {r1 : Res β} (h : RxS C W σ H Z env F P r) (e : ∀ x env', r1 = .raise x env' → r = .raise x env') : Rx C W σ H Z env F P r1 := fun x env' q H' Z' F' cls dd n xr => h x env' (e x env' q) σ H' Z' F' cls dd n.st xr
theorem RxS.next {α β : Type} {r : Res α} {r1 : Res β} (h : RxS C W σ H Z env F P r) (n : NxS C σ H Z env F P σ1 H1 Z1 env1 F1) (e : ∀ x env', r1 = .raise x env' → r = .raise x env') : RxS C W σ1 H1 Z1 env1 F1 P r1 :=
  fun x env' q σ' H' Z' F' cls dd n' xr => h x env' (e x env' q) σ' H' Z' F' cls dd (n.trans n') xr
theorem EndsOk.next {r : Res Fl} (h : EndsOk C σ H Z env F P D r) (n : NxS C σ H Z env F P σ1 H1 Z1 env1 F1) : EndsOk C σ1 H1 Z1 env1 F1 P D r :=
  ⟨fun env' e σ' H' Z' F' m => h.1 env' e σ' H' Z' F' (n.trans m), fun env' e σ' H' Z' F' m => h.2.1 env' e σ' H' Z' F' (n.trans m), fun env' e σ' H' Z' F' m => h.2.2.1 env' e σ' H' Z' F' (n.trans m), fun t env' e v σ' H' Z' F' U m => h.2.2.2 t env' e v σ' H' Z' F' U (n.ox m)⟩
theorem NxS.unlk {σ' : Sto} {m : E} {H' Z' : Hp} {env' : Env} {F' : Nat → FS} (R : Rel C σ H Z env F P) (lkOk : ∀ i, m = .lkv i → ∃ t, env[i]? = some (Sl.own t)) (n : NxS C σ H Z (lk m env) F P σ' H' Z' env' F') : NxS C σ H Z env F P σ' H' Z' (unlk m env') F' := by
  have hs : ∀ i, m = .lkv i → σ'[i]? = σ[i]? := fun i e => by
    subst e
    obtain ⟨t, h⟩ := lkOk i rfl
    refine ((n.rok i t).2 ?_).2
    simp only [Mp.lk, h]
    exact List.getElem?_set_self (List.getElem?_eq_some_iff.mp h).1
  have n' : Nx C σ' H Z (lk m env) F P H' Z' env' F' := ⟨n.rel, n.stp, n.all, fun i t => ⟨(n.rok i t).1, fun h => ((n.rok i t).2 h).1⟩⟩
  have r := n'.unlk R lkOk hs
  refine ⟨r.rel, r.stp, r.all, fun j t => ⟨(r.rok j t).1, fun h => ⟨(r.rok j t).2 h, ?_⟩⟩⟩
  refine ((n.rok j t).2 ?_).2
  cases m with
  | lkv i =>
    obtain ⟨t0, h0⟩ := lkOk i rfl
    simp only [Mp.lk, h0]
    rw [getElem_set_ne' (fun z => by subst z; rw [h0] at h; cases h)]
    exact h
  | _ => exact h
theorem OxS.unlk {σ' : Sto} {m : E} {H' Z' : Hp} {env' : Env} {F' : Nat → FS} {U : FS} (R : Rel C σ H Z env F P) (lkOk : ∀ i, m = .lkv i → ∃ t, env[i]? = some (Sl.own t)) (a : OxS C σ H Z (lk m env) F P σ' H' Z' env' F' U) : OxS C σ H Z env F P σ' H' Z' (unlk m env') F' U := by
  have n := a.n.unlk R lkOk
  have sa : ∀ b, Af (lk m env) F b → Af env F b := fun b ⟨j, ⟨t0, e⟩, y⟩ => by
    cases m with
    | lkv i =>
      obtain ⟨t, h⟩ := lkOk i rfl
      simp only [Mp.lk, h] at e
      by_cases q : j = i
      · subst q
        rw [List.getElem?_set_self (List.getElem?_eq_some_iff.mp h).1] at e
        cases e
      · rw [getElem_set_ne' q] at e
        exact ⟨j, ⟨t0, e⟩, y⟩
    | _ => exact ⟨j, ⟨t0, e⟩, y⟩
  refine ⟨n, a.live, a.ap, a.zf, ⟨n.stp.zz, fun b o e x => a.st.keep b o e fun y => x (sa b y), fun b x => ?_, fun b o e => ?_⟩⟩
  · rcases x with x | x
    · exact n.stp.new b x
    · exact (a.st.new b (.inr x)).imp (sa b) id
  · exact (a.st.nz b o e).imp id fun y => y.imp (sa b) id
theorem ends_one {r : Res Fl} {f : Fl} {env' : Env} (e : r = .ok f env') : (f = .nx → (∀ σ' H' Z' F', NxS C σ H Z env F P σ' H' Z' env' F' → D.nx σ' H')) → (f = .bk → ∀ σ' H' Z' F', NxS C σ H Z env F P σ' H' Z' env' F' → D.bk σ' H') → (f = .ct → ∀ σ' H' Z' F', NxS C σ H Z env F P σ' H' Z' env' F' → D.ct σ' H') →
    (∀ t, f = .ret t → ∀ v σ' H' Z' F' U, OxS C σ H Z env F P σ' H' Z' env' F' U → Own C false H' Z' v t U → D.rt v H') → EndsOk C σ H Z env F P D r := fun a b c d => by
  refine ⟨fun e1 q => ?_, fun e1 q => ?_, fun e1 q => ?_, fun t e1 q => ?_⟩ <;> (rw [e] at q; simp only [Res.ok.injEq] at q; obtain ⟨q1, rfl⟩ := q)
  · exact a q1
  · exact b q1
  · exact c q1
  · exact d t q1
end
/-- a def's own frame -/
def FxOk (X : Cx) : Prop := (∀ x, X.fn x = true) ∧ X.stack = X.env :: X.outer ∧ X.env.frame = some X.env.locals
def SdS (G : Gl) (hit : Str → Str → Bool) (m : S) : Prop := ∀ (N : List Str) (sc : Scope) (pn : List Nat) (st : List Stmt), chkS N sc pn m st = true → ∀ (X : Cx) (W : WX) (k : Nat), CxOk N sc k X → FxOk X → Takes X W → GOk G (ctOf X) k →
  ∀ (σ : Sto) (H Z : Hp) (env : Env) (F : Nat → FS) (P : List (Nat × V)), Rel (ctOf X) σ H Z env F P → (∀ q ∈ P, q.1 ∈ pn) → evS G hit m env ≠ .bad → RxS (ctOf X) W σ H Z env F P (evS G hit m env) →
  ∀ D : Ends, EndsOk (ctOf X) σ H Z env F P D (evS G hit m env) → wS X st D σ H
def Sd1 (G : Gl) (hit : Str → Str → Bool) (m : S) : Prop := ∀ (N : List Str) (sc : Scope) (pn : List Nat) (st : Stmt), chk1 N sc pn m st = true → ∀ (X : Cx) (W : WX) (k : Nat), CxOk N sc k X → FxOk X → Takes X W → GOk G (ctOf X) k →
  ∀ (σ : Sto) (H Z : Hp) (env : Env) (F : Nat → FS) (P : List (Nat × V)), Rel (ctOf X) σ H Z env F P → (∀ q ∈ P, q.1 ∈ pn) → evS G hit m env ≠ .bad → RxS (ctOf X) W σ H Z env F P (evS G hit m env) →
  ∀ D : Ends, EndsOk (ctOf X) σ H Z env F P D (evS G hit m env) → w1 X st D σ H
section
variable {G : Gl} {hit : Str → Str → Bool}
theorem sd_skip : SdS G hit .skip := by
  intro N sc pn st hc X W k cx fx tk gk σ H Z env F P R hP nb rx D ok
  cases st with
  | nil => exact wS_of pss_nil (ok.1 env rfl σ H Z F (NxS.refl R))
  | cons a r => simp [chkS] at hc
theorem sd_seq {a b : S} (ha : Sd1 G hit a) (hb : SdS G hit b) : SdS G hit (.seq a b) := by
  intro N sc pn st hc X W k cx fx tk gk σ H Z env F P R hP nb rx D ok
  cases st with
  | nil => simp [chkS] at hc
  | cons x r =>
    simp only [chkS, Bool.and_eq_true] at hc
    simp only [evS] at nb rx ok
    refine wS_of (pss_cons ps_w pss_w) ?_
    refine ha N sc pn x hc.1 X W k cx fx tk gk σ H Z env F P R hP (bind_nb nb) (rx.next (NxS.refl R) fun z env' h => bind_rx h) _ ⟨fun env1 h1 σ1 H1 Z1 F1 n => ?_, fun env1 h1 σ1 H1 Z1 F1 n => ?_, fun env1 h1 σ1 H1 Z1 F1 n => ?_, fun t env1 h1 v σ1 H1 Z1 F1 U n o => ?_⟩
    · rw [h1] at nb rx ok
      simp only [bind_ok] at nb rx ok
      exact hb N sc pn r hc.2 X W k cx fx tk gk σ1 H1 Z1 env1 F1 P n.rel hP nb (rx.next n fun z env' h => h) D (ok.next n)
    · rw [h1] at ok
      exact ok.2.1 env1 rfl σ1 H1 Z1 F1 n
    · rw [h1] at ok
      exact ok.2.2.1 env1 rfl σ1 H1 Z1 F1 n
    · rw [h1] at ok
      exact ok.2.2.2 t env1 rfl v σ1 H1 Z1 F1 U n o
theorem sd_nev : Sd1 G hit .nev := fun N sc pn st hc X W k cx fx tk gk σ H Z env F P R hP nb => absurd rfl nb
theorem sd_pss : Sd1 G hit .pss := by
  intro N sc pn st hc X W k cx fx tk gk σ H Z env F P R hP nb rx D ok
  have fin := ok.1 env rfl σ H Z F (NxS.refl R)
  unfold chk1 at hc
  split at hc <;> first | contradiction | exact w1_of ps_pass fin | exact w1_of ps_doc fin
theorem sd_brk : Sd1 G hit .brk := by
  intro N sc pn st hc X W k cx fx tk gk σ H Z env F P R hP nb rx D ok
  have fin := ok.2.1 env rfl σ H Z F (NxS.refl R)
  unfold chk1 at hc
  split at hc <;> first | contradiction | exact w1_of ps_break fin
theorem sd_cont : Sd1 G hit .cont := by
  intro N sc pn st hc X W k cx fx tk gk σ H Z env F P R hP nb rx D ok
  have fin := ok.2.2.1 env rfl σ H Z F (NxS.refl R)
  unfold chk1 at hc
  split at hc <;> first | contradiction | exact w1_of ps_continue fin
theorem sd_retN : Sd1 G hit .retN := by
  intro N sc pn st hc X W k cx fx tk gk σ H Z env F P R hP nb rx D ok
  have fin : D.rt .non H := ok.2.2.2 (.fz .none) env rfl .non σ H Z F (fun _ => False) ⟨NxS.refl R, fun _ x => x.elim, fun _ _ x => x.elim, fun _ x => x.elim, Stp.refl.mono (fun _ x => x) fun b x => x.elim .inl False.elim⟩ (.fz .non fun _ x => x)
  unfold chk1 at hc
  split at hc <;> first | contradiction | exact w1_of ps_retN fin
theorem sd_ret {o : E} (ho : SdO G o) : Sd1 G hit (.ret o) := by
  intro N sc pn st hc X W k cx fx tk gk σ H Z env F P R hP nb rx D ok
  have sh : ∃ e pos, st = .Return (some e) pos := by
    unfold chk1 at hc
    split at hc <;> first | contradiction | exact ⟨_, _, rfl⟩
  obtain ⟨e, pos, rfl⟩ := sh
  simp only [chk1] at hc
  simp only [evS] at nb rx ok
  refine w1_of (ps_ret pe_w) ?_
  refine ho N sc e hc X W k cx tk gk σ H Z env F P R (bind_nb nb) (rx.rx fun z env' h => bind_rx h) _ fun t env1 h1 v H1 Z1 F1 U1 x1 o1 => ?_
  rw [h1] at ok
  exact ok.2.2.2 t env1 rfl v σ H1 Z1 F1 U1 x1.sx o1
theorem sd_ex {a : E} (ha : SdE G a) : Sd1 G hit (.ex a) := by
  intro N sc pn st hc X W k cx fx tk gk σ H Z env F P R hP nb rx D ok
  have sh : ∃ e pos, st = .Expr e pos := by
    unfold chk1 at hc
    split at hc <;> first | contradiction | exact ⟨_, _, rfl⟩
  obtain ⟨e, pos, rfl⟩ := sh
  simp only [chk1, Bool.and_eq_true] at hc
  simp only [evS] at nb rx ok
  refine w1_of (ps_expr pe_w (by cases e <;> first | rfl | simp [plC] at hc)) ?_
  refine ha N sc e hc.1 X W k cx tk gk σ H Z env F P R (bind_nb nb) (rx.rx fun z env' h => bind_rx h) _ fun d env1 h1 v H1 Z1 F1 n1 q1 d1 => ?_
  rw [h1] at ok
  exact ok.1 env1 rfl σ H1 Z1 F1 n1.st
theorem sd_iff {c : E} {a b : S} (hcc : SdT G c) (ha : SdS G hit a) (hb : SdS G hit b) : Sd1 G hit (.iff c a b) := by
  intro N sc pn st hc X W k cx fx tk gk σ H Z env F P R hP nb rx D ok
  have sh : ∃ c' a' b' pos, st = .If c' a' b' pos := by
    unfold chk1 at hc
    split at hc <;> first | contradiction | exact ⟨_, _, _, _, rfl⟩
  obtain ⟨c', a', b', pos, rfl⟩ := sh
  simp only [chk1, Bool.and_eq_true] at hc
  obtain ⟨⟨cc, ca⟩, cb⟩ := hc
  simp only [evS] at nb rx ok
  refine w1_of (ps_if pt_w pss_w pss_w) ?_
  refine (hcc N sc c' cc X W k cx tk gk σ H Z env F P R (bind_nb nb) (rx.rx fun z env' h => bind_rx h) _ fun d env1 h1 H1 Z1 F1 n1 q1 => ?_).1
  rw [h1] at nb rx ok
  simp only [bind_ok] at nb rx ok
  cases d with
  | true =>
    simp only [if_true] at nb rx ok ⊢
    exact ha N sc pn a' ca X W k cx fx tk gk σ H1 Z1 env1 F1 P n1.rel hP nb (rx.next n1.st fun z env' h => h) D (ok.next n1.st)
  | false =>
    simp only [Bool.false_eq_true, if_false] at nb rx ok ⊢
    exact hb N sc pn b' cb X W k cx fx tk gk σ H1 Z1 env1 F1 P n1.rel hP nb (rx.next n1.st fun z env' h => h) D (ok.next n1.st)
theorem sd_whil {c : E} {b : S} (hcc : SdT G c) (hb : SdS G hit b) : Sd1 G hit (.whil c b) := by
  intro N sc pn st hc X W k cx fx tk gk σ H Z env F P R hP nb rx D ok
  have sh : ∃ c' b' pos, st = .While c' b' [] pos := by
    unfold chk1 at hc
    split at hc <;> first | contradiction | exact ⟨_, _, _, rfl⟩
  obtain ⟨c', b', pos, rfl⟩ := sh
  simp only [chk1, Bool.and_eq_true] at hc
  obtain ⟨cc, cb⟩ := hc
  simp only [evS] at nb rx ok
  refine w1_of (ps_while cx.own pt_w pss_w) ?_
  refine ⟨fun m σ' H' => ∃ Z' e F', NxS (ctOf X) σ H Z env F P σ' H' Z' e F' ∧ whileL (evT G c) (evS G hit b) m e = whileL (evT G c) (evS G hit b) FUEL env, ⟨FUEL, Z, env, F, NxS.refl R, rfl⟩, ?_⟩
  rintro m σ1 H1 ⟨Z1, e1, F1, n1, heq⟩
  rw [← heq] at nb rx ok
  cases m with
  | zero => exact absurd rfl nb
  | succ m =>
    simp only [whileL] at nb rx ok heq
    refine (hcc N sc c' cc X W k cx tk gk σ1 H1 Z1 e1 F1 P n1.rel (bind_nb nb) ((rx.next n1 fun z env' h => h).rx fun z env' h => bind_rx h) _ fun d e2 h2 H2 Z2 F2 n2 q2 => ?_).1
    rw [h2] at nb rx ok heq
    simp only [bind_ok] at nb rx ok heq
    have n12 := n1.trans n2.st
    cases d with
    | false =>
      simp only [Bool.false_eq_true, if_false] at ok ⊢
      exact ok.1 e2 rfl σ1 H2 Z2 F2 n12
    | true =>
      simp only [if_true] at nb rx ok heq ⊢
      refine ⟨fun σ' H' => ∃ Z' e F', NxS (ctOf X) σ H Z env F P σ' H' Z' e F' ∧ whileL (evT G c) (evS G hit b) m e = whileL (evT G c) (evS G hit b) FUEL env, fun σ' H' h => ⟨m, Nat.lt_succ_self m, h⟩, ?_⟩
      refine hb N sc pn b' cb X W k cx fx tk gk σ1 H2 Z2 e2 F2 P n2.rel hP (bind_nb nb) ((rx.next n12 fun z env' h => h).next (NxS.refl n2.rel) fun z env' h => bind_rx h) _ ⟨fun e3 h3 σ3 H3 Z3 F3 n3 => ?_, fun e3 h3 σ3 H3 Z3 F3 n3 => ?_, fun e3 h3 σ3 H3 Z3 F3 n3 => ?_, fun t e3 h3 v σ3 H3 Z3 F3 U n3 o3 => ?_⟩
      · rw [h3] at heq
        exact ⟨Z3, e3, F3, n12.trans n3, heq⟩
      · rw [h3] at ok
        exact ok.1 e3 rfl σ3 H3 Z3 F3 (n12.trans n3)
      · rw [h3] at heq
        exact ⟨Z3, e3, F3, n12.trans n3, heq⟩
      · rw [h3] at ok
        exact ok.2.2.2 t e3 rfl v σ3 H3 Z3 F3 U (n12.ox n3) o3
theorem sd_fo {tg it : E} {b : S} (hi : SdI G it) (hb : SdS G hit b) : Sd1 G hit (.fo tg it b) := by
  intro N sc pn st hc X W k cx fx tk gk σ H Z env F P R hP nb rx D ok
  have sh : ∃ tg' it' b' pos, st = .For tg' it' b' [] pos := by
    unfold chk1 at hc
    split at hc <;> first | contradiction | exact ⟨_, _, _, _, rfl⟩
  obtain ⟨tg', it', b', pos, rfl⟩ := sh
  simp only [chk1, Bool.and_eq_true] at hc
  obtain ⟨⟨⟨ci, ct⟩, np⟩, cb⟩ := hc
  simp only [evS] at nb rx ok
  obtain ⟨wi, hwi, hset, hrun⟩ := hi N sc it' ci X W k cx tk gk tg'
  obtain ⟨g, hg, hbnd⟩ := chkB_pg cx (fun x _ => fx.1 x) ct
  refine w1_of (ps_for cx.own cx.calm hwi hg pss_w hset) ?_
  refine hrun σ H Z env F P R (bind_nb nb) (rx.rx fun z env' h => bind_rx h) _ fun items env1 h1 J H1 Z1 F1 n1 wk => ?_
  rw [h1] at nb rx ok
  simp only [bind_ok] at nb rx ok
  have lko := lk_ok h1
  have R1 := n1.rel.lk it
  have nb0 : forL (turnF (evS G hit b) tg) items (lk it env1) ≠ .bad := fun e => by rw [e] at nb; exact nb rfl
  have back : ∀ {σ' : Sto} {H' Z' : Hp} {e : Env} {F' : Nat → FS}, NxS (ctOf X) σ H1 Z1 (lk it env1) F1 P σ' H' Z' e F' → NxS (ctOf X) σ H Z env F P σ' H' Z' (unlk it e) F' := fun n => n1.st.trans (n.unlk n1.rel lko)
  refine ⟨fun i m σ' H' => m = items.length - i ∧ i ≤ items.length ∧ ∃ Z' e F', NxS (ctOf X) σ H1 Z1 (lk it env1) F1 P σ' H' Z' e F' ∧ forL (turnF (evS G hit b) tg) (items.drop i) e = forL (turnF (evS G hit b) tg) items (lk it env1),
    ⟨items.length, by simp, Nat.zero_le _, Z1, lk it env1, F1, NxS.refl R1, rfl⟩, ?_⟩
  rintro i m σ2 H2 ⟨rfl, hle, Z2, e2, F2, n2, heq⟩
  obtain ⟨st, go⟩ := wk σ2 H2 Z2 e2 F2 P n2.rel n2.stp.zz fun j t hj => ⟨(n2.rok j t).1.mp hj, ((n2.rok j t).2 hj).2⟩
  rw [← heq] at nb0 nb rx ok
  by_cases hlt : i < items.length
  case neg =>
    have ei : i = items.length := by omega
    subst ei
    rw [List.drop_length] at ok
    exact .inl ⟨st _ (Nat.le_refl _), ok.1 _ rfl σ2 H2 Z2 F2 (back n2)⟩
  case pos =>
  have hd : items[i]? = some items[i] := List.getElem?_eq_getElem hlt
  obtain ⟨jgo, jy⟩ := go i _ hd
  rw [List.drop_eq_getElem_cons hlt] at nb0 nb rx ok heq
  simp only [forL] at nb0 nb rx ok heq
  refine .inr ⟨jgo, fun σ' H' => ∃ Z' e F', NxS (ctOf X) σ H1 Z1 (lk it env1) F1 P σ' H' Z' e F' ∧ forL (turnF (evS G hit b) tg) (items.drop (i + 1)) e = forL (turnF (evS G hit b) tg) items (lk it env1),
    fun σ' H' h => ⟨items.length - (i + 1), by omega, rfl, by omega, h⟩, fun xv H' hy => ?_⟩
  obtain ⟨rfl, dz⟩ := jy _ _ hy
  have nb1 := bind_nb nb0
  cases hbt : bindT tg items[i] e2 with
  | none => unfold turnF at nb1; rw [hbt] at nb1; exact absurd rfl nb1
  | some e3 =>
    have tf : turnF (evS G hit b) tg items[i] e2 = evS G hit b e3 := by unfold turnF; rw [hbt]
    rw [tf] at nb0 nb1 nb rx ok heq
    refine hbnd σ2 H' Z2 e2 F2 P xv _ e3 n2.rel dz hbt (fun q hq z => ?_) _ fun σ3 F3 R3 m3 => ?_
    · unfold noPin at np
      rw [List.all_eq_true] at np
      have := np q.1 z
      rw [List.contains_iff_mem.mpr (hP q hq)] at this
      cases this
    have n3 := n2.trans (m3.nx n2.rel R3)
    refine hb N sc pn b' cb X W k cx fx tk gk σ3 H' Z2 e3 F3 P R3 hP nb1 (fun x e4 h4 σ4 H4 Z4 F4 cls dd n4 xr => ?_) _ ⟨fun e4 h4 σ4 H4 Z4 F4 n4 => ?_, fun e4 h4 σ4 H4 Z4 F4 n4 => ?_, fun e4 h4 σ4 H4 Z4 F4 n4 => ?_, fun t e4 h4 v σ4 H4 Z4 F4 U n4 o4 => ?_⟩
    · rw [h4] at rx
      exact rx x _ rfl σ4 H4 Z4 F4 cls dd (back (n3.trans n4)) xr
    · rw [h4] at heq
      exact ⟨Z4, e4, F4, n3.trans n4, heq⟩
    · rw [h4] at ok
      exact ok.1 _ rfl σ4 H4 Z4 F4 (back (n3.trans n4))
    · rw [h4] at heq
      exact ⟨Z4, e4, F4, n3.trans n4, heq⟩
    · rw [h4] at ok
      exact ok.2.2.2 t _ rfl v σ4 H4 Z4 F4 U (n1.st.ox ((n3.ox n4).unlk n1.rel lko)) o4
end
end Mp

end
section
set_option Elab.async false
set_option linter.all false
set_option maxRecDepth 100000
set_option autoImplicit false
/-! MiniPy, part X: stores. -/
namespace Mp
open PySem PySem.Spec PyProof.Rows L2

theorem sw_plain {e : Expr} {x : Str} {p : Pos} {l : Nat} {env : PySem.Env} (h : plC e = true) : swapsWith e (some (.Name x p)) l env = pure false := by
  cases e <;> first | rfl | simp [plC] at h
theorem sw_sub {e b i : Expr} {p : Pos} {l : Nat} {env : PySem.Env} : swapsWith e (some (.Subscript b i p)) l env = pure false := by
  cases e <;> rfl
theorem sw_tup {e : Expr} {xs : List Expr} {kk : Nat} {p : Pos} {l : Nat} {env : PySem.Env} : swapsWithSole [.Tuple xs kk p] e l env = pure false := by
  cases e <;> rfl
theorem ss_sub {e b i : Expr} {p : Pos} {env : PySem.Env} : swappedStores [.Subscript b i p] e env = pure none := by
  cases e <;> rfl
theorem ss_tup {e : Expr} {xs : List Expr} {kk : Nat} {p : Pos} {env : PySem.Env} (h : (match e with | .Tuple _ _ _ => false | _ => true) = true) : swappedStores [.Tuple xs kk p] e env = pure none := by
  cases e <;> first | rfl | cases h
section
variable {G : Gl} {hit : Str → Str → Bool}
/-- every comprehension within is sound -/
def SdC (G : Gl) : E → Prop
  | .ocomp own elt tg it ifs => SdI G it ∧ SdT G ifs ∧ SdO G elt
  | .ofz (.ofr (.ocomp own elt tg it ifs)) => SdI G it ∧ SdT G ifs ∧ SdO G elt
  | _ => True
theorem sd_asg {i : Nat} {o : E} (ho : SdO G o) (hcmp : SdC G o) : Sd1 G hit (.asg i o) := by
  intro N sc pn st hc X W k cx fx tk gk σ H Z env F P R hP nb rx D ok
  have sh : ∃ x p e pos, st = .Assign [.Name x p] e pos := by
    unfold chk1 at hc
    split at hc <;> first | contradiction | exact ⟨_, _, _, _, rfl⟩
  obtain ⟨x, p, e, pos, rfl⟩ := sh
  simp only [chk1, Bool.and_eq_true] at hc
  obtain ⟨⟨⟨cn, np⟩, co⟩, cp⟩ := hc
  have hPi : ∀ q ∈ P, q.1 ≠ i := fun q hq z => by
    subst z
    rw [List.contains_iff_mem.mpr (hP q hq)] at np
    cases np
  simp only [evS] at nb rx ok
  -- what the value's reading gives
  have run : ∀ {t : TE}, ROk G o X W t → tAsg t (gName i) D σ H := fun {t} h => by
    refine h σ H Z env F P R (bind_nb nb) (rx.rx fun z env' h => bind_rx h) _ fun t1 env1 h1 v H1 Z1 F1 U1 x1 o1 => ?_
    rw [h1] at nb ok
    simp only [bind_ok] at nb ok
    cases hs : setT env1 i t1 with
    | none => rw [hs] at nb; exact absurd rfl nb
    | some env2 =>
      rw [hs] at ok
      exact ok.1 env2 rfl _ H1 Z1 _ (x1.store o1 hs hPi)
  have hN : X.N.Nodup := by rw [cx.nm]; exact cx.nd
  unfold locB at cn
  simp only [Bool.and_eq_true, Bool.or_eq_true, decide_eq_true_eq] at cn
  obtain ⟨n1, n2⟩ := cn
  have hi : X.N[i]? = some x := by rw [cx.nm]; exact n1
  have hx : Loc X.env.scope x := by
    rw [cx.sc]
    exact n2.imp id And.right
  have plain : swapsWith e (some (.Name x p)) pos.line X.env = pure false → w1 X (.Assign [.Name x p] e pos) D σ H := fun hs =>
    w1_of (ps_set hN hi hx pe_w hs (.inl (fx.1 x))) (run fun σ H Z env F P R nb rx Q ok => ho N sc e co X W k cx tk gk σ H Z env F P R nb rx Q ok)
  by_cases hp : plC e = true
  · exact plain (sw_plain hp)
  have hcomp : isComp o = true := by
    rw [Bool.or_eq_true] at cp
    exact cp.resolve_left hp
  have lc : ∀ {own : List (Str × Nat)} {elt tg it ifs : E} (co' : chkO N sc (.ocomp own elt tg it ifs) e = true), SdI G it → SdT G ifs → SdO G elt → (∀ t, ROk G (.ocomp own elt tg it ifs) X W t → ROk G o X W t) → w1 X (.Assign [.Name x p] e pos) D σ H := fun {own elt tg it ifs} co' s1 s2 s3 up => by
    have sh : ∃ elt' tg' it' ifs' scope pos', e = .ListComp elt' [⟨tg', it', ifs', 0⟩] scope pos' := by
      unfold chkO at co'
      split at co' <;> first | contradiction | exact ⟨_, _, _, _, _, _, rfl⟩
    obtain ⟨elt', tg', it', ifs', scope, pos', rfl⟩ := sh
    obtain ⟨wi, g, tt, te, h1, h2, h3, h4, h5, h6, h7⟩ := ocomp_t s1 s2 s3 co' cx tk gk
    have esw : swapsWith (.ListComp elt' [⟨tg', it', ifs', 0⟩] scope pos') (some (.Name x p)) pos.line X.env = pure (X.env.blockKind == ScopeKind.function && X.env.kindOf x == some NameKind.local && p.line == pos'.line && !scope.names.any fun y => match y with | (n, k) => n == x && (k == NameKind.local || k == NameKind.cell)) := rfl
    cases hb : (X.env.blockKind == ScopeKind.function && X.env.kindOf x == some NameKind.local && p.line == pos'.line && !scope.names.any fun y => match y with | (n, k) => n == x && (k == NameKind.local || k == NameKind.cell)) with
    | false => exact plain (by rw [esw, hb])
    | true =>
      have hl : X.env.scope.names.lookup x = some .local := by
        simp only [Bool.and_eq_true] at hb
        have := hb.1.1.2
        have e2 : X.env.kindOf x = X.env.scope.names.lookup x := rfl
        rw [e2] at this
        cases q : X.env.scope.names.lookup x with
        | none => rw [q] at this; cases this
        | some kk => rw [q] at this; cases kk <;> first | rfl | cases this
      exact w1_of (ps_setLc cx.calm hN hi hl (by rw [esw, hb]) h1 h6 h2 h3 h4 h5) (run (up _ h7))
  unfold isComp at hcomp
  split at hcomp
  · obtain ⟨s1, s2, s3⟩ := hcmp
    exact lc co s1 s2 s3 fun _ h => h
  · rename_i own elt tg it ifs
    obtain ⟨s1, s2, s3⟩ := hcmp
    have co2 : chkO N sc (.ocomp own elt tg it ifs) e = true := by
      rw [chkO, chkE, Bool.and_eq_true] at co
      exact co.1
    exact lc co2 s1 s2 s3 fun _ h => h.frz
  · cases hcomp
theorem sd_asgT {tg a : E} (ha : SdE G a) : Sd1 G hit (.asgT tg a) := by
  intro N sc pn st hc X W k cx fx tk gk σ H Z env F P R hP nb rx D ok
  have sh : ∃ xs kk p e pos, st = .Assign [.Tuple xs kk p] e pos := by
    unfold chk1 at hc
    split at hc <;> first | contradiction | exact ⟨_, _, _, _, _, rfl⟩
  obtain ⟨xs, kk, p, e, pos, rfl⟩ := sh
  simp only [chk1, Bool.and_eq_true] at hc
  obtain ⟨⟨⟨⟨⟨ct, np⟩, ca⟩, sa⟩, ht⟩, hp⟩ := hc
  obtain ⟨g, hg, hbnd⟩ := chkB_pg cx (fun x _ => fx.1 x) ct
  simp only [evS] at nb rx ok
  refine w1_of (ps_asg pe_w hg sw_tup (ss_tup ht) rfl) ?_
  refine ha N sc e ca X W k cx tk gk σ H Z env F P R (bind_nb nb) (rx.rx fun z env' h => bind_rx h) _ fun d env1 h1 v H1 Z1 F1 n1 q1 d1 => ?_
  rw [h1] at nb ok
  simp only [bind_ok] at nb ok
  cases hb : bindT tg d env1 with
  | none => rw [hb] at nb; exact absurd rfl nb
  | some env2 =>
    rw [hb] at ok
    refine hbnd σ H1 Z1 env1 F1 P v d env2 n1.rel (d1.2 sa) hb (fun q hq z => ?_) _ fun σ2 F2 R2 m2 => ?_
    · unfold noPin at np
      rw [List.all_eq_true] at np
      have := np q.1 z
      rw [List.contains_iff_mem.mpr (hP q hq)] at this
      cases this
    · exact ok.1 env2 rfl σ2 H1 Z1 F2 (n1.st.trans (m2.nx n1.rel R2))
theorem sd_nick {i : Nat} {l : E} (hl : SdL G l) : Sd1 G hit (.nick i l) := by
  intro N sc pn st hc X W k cx fx tk gk σ H Z env F P R hP nb rx D ok
  have sh : ∃ x p e pos, st = .Assign [.Name x p] e pos := by
    unfold chk1 at hc
    split at hc <;> first | contradiction | exact ⟨_, _, _, _, rfl⟩
  obtain ⟨x, p, e, pos, rfl⟩ := sh
  simp only [chk1, Bool.and_eq_true] at hc
  obtain ⟨⟨⟨cn, np⟩, cl⟩, cp⟩ := hc
  have hPi : ∀ q ∈ P, q.1 ≠ i := fun q hq z => by
    subst z
    rw [List.contains_iff_mem.mpr (hP q hq)] at np
    cases np
  have hN : X.N.Nodup := by rw [cx.nm]; exact cx.nd
  unfold locB at cn
  simp only [Bool.and_eq_true, Bool.or_eq_true, decide_eq_true_eq] at cn
  obtain ⟨n1, n2⟩ := cn
  have hi : X.N[i]? = some x := by rw [cx.nm]; exact n1
  have hx : Loc X.env.scope x := by
    rw [cx.sc]
    exact n2.imp id And.right
  simp only [evS] at nb rx ok
  refine w1_of (ps_set hN hi hx pe_w (sw_plain cp) (.inl (fx.1 x))) ?_
  refine hl N sc e cl X W k cx tk gk σ H Z env F P R (bind_nb nb) (rx.rx fun z env' h => bind_rx h) _ fun q env1 h1 v H1 Z1 F1 n1 q1 pl => ?_
  rw [h1] at nb ok
  simp only [bind_ok] at nb ok
  cases he : env1[i]? with
  | none => rw [he] at nb; exact absurd rfl nb
  | some s =>
    rw [he] at nb ok
    have nro : ∀ t0, s ≠ .ro t0 := fun t0 z => by subst z; exact nb rfl
    have nb' : (if q.1 = i ∨ noNk q.2 = false then (Res.bad : Res Fl) else .ok .nx (setV env1 i (.al q.1 q.2))) ≠ .bad := by
      cases s <;> first | exact nb | exact absurd rfl (nro _)
    have ok' : EndsOk (ctOf X) σ H Z env F P D (if q.1 = i ∨ noNk q.2 = false then (Res.bad : Res Fl) else .ok .nx (setV env1 i (.al q.1 q.2))) := by
      cases s <;> first | exact ok | exact absurd rfl (nro _)
    by_cases hq : q.1 = i ∨ noNk q.2 = false
    · rw [if_pos hq] at nb'; exact absurd rfl nb'
    rw [if_neg hq] at ok'
    simp only [not_or, Bool.not_eq_false] at hq
    obtain ⟨w, t1, hw, hpa, hrd⟩ := pl.path hq.2
    have hil := (List.getElem?_eq_some_iff.mp he).1
    have R2 := n1.rel.setSlot (i := i) (v := v) (s := .al q.1 q.2) (U := fun _ => False) hil ⟨⟨v, rfl⟩, fun _ x => x⟩ (fun _ _ _ x => x.elim) (fun _ z => nomatch z) (fun r p z => by
      injection z with z1 z2
      subst z1; subst z2
      exact ⟨hq.1, w, hw, hpa, by rw [hrd]; rfl, hq.2⟩) hPi
    refine ok'.1 _ rfl _ H1 Z1 _ (n1.st.trans ⟨R2, ⟨Same.refl _, fun _ _ h _ => h, fun b x => .inl ((af_setV b x).elim id False.elim), fun _ _ h => .inl h⟩, fun j b x => .inl ⟨j, ?_⟩, fun j t0 => ⟨?_, fun e1 => ⟨?_, ?_⟩⟩⟩)
    · unfold upF at x
      split at x
      · exact x.elim
      · exact x
    · rw [setV_get]
      by_cases z : j = i
      · subst z
        rw [if_pos rfl, if_pos hil, he]
        exact ⟨fun z => absurd (Option.some.inj z) (nro t0), fun z => by cases z⟩
      · rw [if_neg z]
        cases e2 : env1[j]? with
        | none => simp
        | some s => simp only [Option.map_some, Option.some.injEq, dropAl_ro]
    · unfold upF
      rw [if_neg]
      rintro rfl
      rw [he] at e1
      exact nro t0 (Option.some.inj e1)
    · refine List.getElem?_set_ne ?_
      rintro rfl
      rw [he] at e1
      exact nro t0 (Option.some.inj e1)
theorem sd_setix {l a o : E} (hl : SdL G l) (ha : SdE G a) (ho : SdO G o) : Sd1 G hit (.setix l a o) := by
  intro N sc pn st hc X W k cx fx tk gk σ H Z env F P R hP nb rx D ok
  have sh : ∃ b i p e pos, st = .Assign [.Subscript b i p] e pos := by
    unfold chk1 at hc
    split at hc <;> first | contradiction | exact ⟨_, _, _, _, _, rfl⟩
  obtain ⟨b, i, p, e, pos, rfl⟩ := sh
  simp only [chk1, Bool.and_eq_true] at hc
  obtain ⟨⟨⟨cl, ca⟩, ci⟩, co⟩ := hc
  simp only [evS] at nb rx ok
  refine w1_of (ps_asg pe_w (pg_sub pe_w pe_w set_list (by cases i <;> first | (intro _; rfl) | simp [plI] at ci)) (show swapsWith e (some (.Subscript b i p)) pos.line X.env = pure false from sw_sub) ss_sub rfl) ?_
  refine ho N sc e co X W k cx tk gk σ H Z env F P R (bind_nb nb) (rx.rx fun z env' h => bind_rx h) _ fun t env0 h0 v H0 Z0 F0 U0 x0 o0 => ?_
  rw [h0] at nb rx ok
  simp only [bind_ok] at nb rx ok
  refine hl N sc b cl X W k cx tk gk σ H0 Z0 env0 F0 P x0.n.rel (bind_nb nb) ((rx.next x0.n.st fun z env' h => h).rx fun z env' h => bind_rx h) _ fun q env1 h1 bv H1 Z1 F1 n1 q1 pl => ?_
  rw [h1] at nb rx ok
  simp only [bind_ok] at nb rx ok
  by_cases hlt : late q a = false
  · rw [if_pos hlt] at nb; exact absurd rfl nb
  rw [if_neg hlt] at nb rx ok
  have x1 := x0.next (q' := false) n1 fun z => by cases z
  refine ha N sc i ca X W k cx tk gk σ H1 Z1 env1 F1 P n1.rel (bind_nb nb) ((rx.next x1.n.st fun z env' h => h).rx fun z env' h => bind_rx h) _ fun kd env2 h2 kv H2 Z2 F2 n2 q2 d2 => ?_
  rw [h2] at nb ok
  simp only [bind_ok] at nb ok
  have x2 := x1.next (q' := false) n2 fun z => by cases z
  have o2 := n2.stp.own (n1.stp.own o0 x0.ap.af) x1.ap.af
  cases hp : ownP env2 q.1 q.2 with
  | none => rw [hp] at nb; exact absurd rfl nb
  | some t1 =>
    rw [hp] at nb ok
    cases t1 with
    | ls ts =>
      cases kd with
      | int j =>
        simp only [intD] at nb ok
        cases hj : ixN ts.length j with
        | none => rw [hj] at nb; exact absurd rfl nb
        | some n =>
          rw [hj] at nb ok
          simp only at nb ok
          have pl2 := pl.late n2 ((late_or hlt).imp id q2) (by rw [readP_own hp]; rfl)
          obtain ⟨c, vs, S, rfl, hb, lnn, ow, Sf, put⟩ := n2.rel.putLsX pl2 hp
          have ev := d2.1.int
          subst ev
          have hn : n < ts.length := by
            have := (ixN_seq hj).2.2.2
            have h4 := (ixN_seq hj).2.1
            omega
          obtain ⟨v0, U1, g1, g2, g3, g4⟩ := ow.at (k := n) (t := ts[n]) (List.getElem?_eq_getElem hn)
          have dj : ∀ b, U0 b → ¬ S b := fun b y z => x2.ap _ b y (Sf b z)
          have ow' := g4 H2 Z2 v t U0 (Same.refl _) (fun b ob _ _ e => e) o2 (fun b y z => absurd z (dj b y))
          obtain ⟨env', F', e1, R', st⟩ := put _ _ _ U0 ow' (fun b y => y.imp And.left id) x2.ap (fun b y => ⟨x2.live b y, x2.zf b y⟩)
          rw [e1] at ok
          refine ⟨c, vs, j, n, rfl, rfl, hb, by rw [lnn]; exact hj, ?_⟩
          refine ok.1 env' rfl σ _ Z2 F' ⟨R', x2.st.trans st.1, fun j b y => ?_, fun j t0 => ⟨(x2.n.rok j t0).1.trans (st.2.2 j t0).1, fun h => ⟨((st.2.2 j t0).2 ((x2.n.rok j t0).1.mp h)).trans ((x2.n.rok j t0).2 h), rfl⟩⟩⟩
          rcases st.2.1 j b y with ⟨i', z⟩ | z | z
          · exact x2.n.all i' b z
          · exact (x2.st.new b (.inr z)).imp (fun ⟨i, _, y⟩ => ⟨i, y⟩) id
          · exact (x2.n.stp.dead z).imp (fun ⟨i, _, y⟩ => ⟨i, y⟩) id
      | _ => exact absurd rfl nb
    | _ => exact absurd rfl nb
end
end Mp

end
section
set_option Elab.async false
set_option linter.all false
set_option maxRecDepth 100000
set_option autoImplicit false
/-! MiniPy, part Xa: a field is set. -/
namespace Mp
open PySem PySem.Spec PyProof.Rows L2

section
variable {C : Ct} {σ : Sto} {H Z : Hp} {env : Env} {F : Nat → FS} {P : List (Nat × V)} {r : Nat} {p : List Sg} {v : V}
theorem Rel.putInsX (R : Rel C σ H Z env F P) {c : Str} {fts : List (Str × T)} (pl : Place C σ H Z env F r p v) (e : ownP env r p = some (.ins c fts)) : ∃ a dx A fs S, v = .ref a ∧ C.mg c = some (.ref A) ∧ H a = some (.ins A dx fs) ∧ fs.map (·.1) = fts.map (·.1) ∧
    OwnL C false H Z (fs.map (·.2)) (fts.map (·.2)) S ∧ (∀ b, S b → F r b) ∧
    ∀ (fs' : List (Str × V)) (fts' : List (Str × T)) (S' W : FS), fs'.map (·.1) = fts'.map (·.1) → OwnL C false H Z (fs'.map (·.2)) (fts'.map (·.2)) S' → (∀ b, S' b → S b ∨ W b) → Apt F W → (∀ b, W b → (∃ o, H b = some o) ∧ Z b = none) →
      ∃ env' F', writeP env r p (.ins c fts') = some env' ∧ Rel C σ (upd H a (.ins A dx fs')) Z env' F' P ∧ Stp H Z (fun b => Af env F b ∨ W b) (upd H a (.ins A dx fs')) Z (Af env' F') ∧ (∀ j b, F' j b → (∃ i, F i b) ∨ W b ∨ H b = none) ∧
        ∀ (j : Nat) t0, (env[j]? = some (Sl.ro t0) ↔ env'[j]? = some (Sl.ro t0)) ∧ (env[j]? = some (Sl.ro t0) → F' j = F j) := by
  obtain ⟨w, t, U1, h1, h2, L⟩ := pl.owned R e
  have io := (R.rootOwn h1).choose_spec.2.2
  have own := L.own
  cases own with
  | @ins a dx A _ fs _ S _ hm hA hdx hfs ow na nd hU =>
    have ha : U1 a := (hU a).mpr (.inl rfl)
    have hd : U1 dx := (hU dx).mpr (.inr (.inl rfl))
    have fa : F r a := L.sub a ha
    have ndx : dx ≠ a := fun z => by
      subst z
      rw [hA] at hdx
      cases hdx
    refine ⟨a, dx, A, fs, S, rfl, hm, hA, hfs, ow, fun b x => L.sub b ((hU b).mpr (.inr (.inr x))), fun fs' fts' S' W hf q sub aw lw => ?_⟩
    have na' : ¬ S' a := fun x => by
      rcases sub a x with y | y
      · exact na y
      · exact aw r a y fa
    have nd' : ¬ S' dx := fun x => by
      rcases sub dx x with y | y
      · exact nd y
      · exact aw r dx y (L.sub dx hd)
    have q2 : OwnL C false (upd H a (.ins A dx fs')) Z (fs'.map (·.2)) (fts'.map (·.2)) S' := q.keep (Same.refl Z) fun b x o hb => by
      rw [upd_ne (fun z => na' (by rw [← z]; exact x))]
      exact hb
    have zf : ∀ b, (b = a ∨ b = dx ∨ S' b) → Z b = none := fun b x => by
      rcases x with x | x | x
      · subst x; exact R.az r _ io fa
      · subst x; exact R.az r _ io (L.sub _ hd)
      · rcases sub b x with y | y
        · exact R.az r b io (L.sub b ((hU b).mpr (.inr (.inr y))))
        · exact (lw b y).2
    have st : Stp H Z (fun b => U1 b ∨ W b) (upd H a (.ins A dx fs')) Z (fun b => b = a ∨ b = dx ∨ S' b) := Stp.wr (p := a) (.inl ha) fun b x => by
      rcases x with x | x | x
      · subst x; exact .inl ha
      · subst x; exact .inl hd
      · rcases sub b x with y | y
        · exact .inl ((hU b).mpr (.inr (.inr y)))
        · exact .inr y
    have zs : Same Z (upd H a (.ins A dx fs')) := fun b o x => by
      rw [upd_ne (fun z => by subst z; rw [zf _ (.inl rfl)] at x; cases x)]
      exact R.sub b o x
    obtain ⟨env', F', e1, R', s1, s2, s3⟩ := R.write h1 h2 L st (.ins hm upd_same (by rw [upd_ne ndx]; exact hdx) hf q2 na' nd' fun b => Iff.rfl) aw zf zs
    exact ⟨env', F', e1, R', s1, s2, s3⟩
theorem putF_names {f : Str} {y : V} {t : T} : ∀ {fs : List (Str × V)} {fts : List (Str × T)}, fs.map (·.1) = fts.map (·.1) → (putF f y fs).map (·.1) = (putA fts f t).map (·.1)
  | [], [], _ => rfl
  | [], _ :: _, h => by simp at h
  | _ :: _, [], h => by simp at h
  | (g, x) :: fs, (g', u) :: fts, h => by
    simp only [List.map_cons, List.cons.injEq] at h
    obtain ⟨rfl, h⟩ := h
    simp only [putF, putA]
    by_cases q : g = f
    · rw [if_pos q, if_pos q]
      subst q
      simp only [List.map_cons, h]
    · rw [if_neg q, if_neg q]
      exact congrArg (g :: ·) (putF_names h)
theorem OwnL.putF {f : Str} {y : V} {t : T} {U0 : FS} (o : Own C false H Z y t U0) : ∀ {fs : List (Str × V)} {fts : List (Str × T)} {S : FS}, fs.map (·.1) = fts.map (·.1) → OwnL C false H Z (fs.map (·.2)) (fts.map (·.2)) S → (∀ b, U0 b → ¬ S b) →
    ∃ S', OwnL C false H Z ((putF f y fs).map (·.2)) ((putA fts f t).map (·.2)) S' ∧ ∀ b, S' b → S b ∨ U0 b
  | [], [], S, _, _, _ => ⟨U0, .cons (S' := fun _ => False) o (.nil fun _ z => z) (fun _ _ z => z) (fun b => ⟨.inl, fun z => z.elim id False.elim⟩), fun b z => .inr z⟩
  | [], _ :: _, _, h, _, _ => by simp at h
  | _ :: _, [], _, h, _, _ => by simp at h
  | (g, x) :: fs, (g', u) :: fts, S, h, ow, d => by
    simp only [List.map_cons, List.cons.injEq] at h
    obtain ⟨rfl, h⟩ := h
    simp only [List.map_cons] at ow
    cases ow with
    | @cons _ _ _ _ S1 S2 _ o1 o2 dj hS =>
      by_cases q : g = f
      · refine ⟨fun b => U0 b ∨ S2 b, ?_, fun b z => z.elim .inr fun z => .inl ((hS b).mpr (.inr z))⟩
        simp only [L2.putF, putA, if_pos q, List.map_cons]
        exact .cons o o2 (fun b z y => d b z ((hS b).mpr (.inr y))) fun b => Iff.rfl
      · obtain ⟨S', p1, p2⟩ := OwnL.putF o h o2 fun b z y => d b z ((hS b).mpr (.inr y))
        refine ⟨fun b => S1 b ∨ S' b, ?_, fun b z => ?_⟩
        · simp only [L2.putF, putA, if_neg q, List.map_cons]
          exact .cons o1 p1 (fun b z y => by
            rcases p2 b y with w | w
            · exact dj b z w
            · exact d b w ((hS b).mpr (.inl z))) fun b => Iff.rfl
        · rcases z with z | z
          · exact .inl ((hS b).mpr (.inl z))
          · exact (p2 b z).imp (fun w => (hS b).mpr (.inr w)) id
end
theorem sw_att {e b : Expr} {f : Str} {p : Pos} {l : Nat} {env : PySem.Env} : swapsWith e (some (.Attribute b f p)) l env = pure false := by
  cases e <;> rfl
section
variable {G : Gl} {hit : Str → Str → Bool}
theorem sd_setfld {l o : E} {f : Str} (hl : SdL G l) (ho : SdO G o) : Sd1 G hit (.setfld l f o) := by
  intro N sc pn st hc X W k cx fx tk gk σ H Z env F P R hP nb rx D ok
  have sh : ∃ b g p e pos, st = .Assign [.Attribute b g p] e pos := by
    unfold chk1 at hc
    split at hc <;> first | contradiction | exact ⟨_, _, _, _, _, rfl⟩
  obtain ⟨b, g, p, e, pos, rfl⟩ := sh
  simp only [chk1, Bool.and_eq_true, decide_eq_true_eq] at hc
  obtain ⟨⟨rfl, cl⟩, co⟩ := hc
  simp only [evS] at nb rx ok
  refine w1_of (ps_fld pe_w pe_w sw_att) ?_
  refine ho N sc e co X W k cx tk gk σ H Z env F P R (bind_nb nb) (rx.rx fun z env' h => bind_rx h) _ fun t env0 h0 v H0 Z0 F0 U0 x0 o0 => ?_
  rw [h0] at nb rx ok
  simp only [bind_ok] at nb rx ok
  refine hl N sc b cl X W k cx tk gk σ H0 Z0 env0 F0 P x0.n.rel (bind_nb nb) ((rx.next x0.n.st fun z env' h => h).rx fun z env' h => bind_rx h) _ fun q env1 h1 bv H1 Z1 F1 n1 q1 pl => ?_
  rw [h1] at nb rx ok
  simp only [bind_ok] at nb rx ok
  have x1 := x0.next (q' := false) n1 fun z => by cases z
  have o1 := n1.stp.own o0 x0.ap.af
  cases hp : ownP env1 q.1 q.2 with
  | none => rw [hp] at nb; exact absurd rfl nb
  | some t1 =>
    rw [hp] at nb ok
    cases t1 with
    | ins c fts =>
      simp only at nb ok
      by_cases hcnd : (decide (fts.length < 1000) && G.fld c f) = true
      case neg => rw [if_neg hcnd] at nb; exact absurd rfl nb
      rw [if_pos hcnd] at nb ok
      rw [Bool.and_eq_true, decide_eq_true_eq] at hcnd
      obtain ⟨a, dx, A, fs, S, rfl, hm, hA, hfs, ow, Sf, put⟩ := n1.rel.putInsX pl hp
      obtain ⟨f1, f2⟩ := gk.fld c f A hcnd.2 hm
      have hlen : fs.length < 1000 := by
        have := congrArg List.length hfs
        simp only [List.length_map] at this
        omega
      have dj : ∀ b, U0 b → ¬ S b := fun b y z => x1.ap _ b y (Sf b z)
      obtain ⟨S', p1, p2⟩ := OwnL.putF (f := f) o1 hfs ow dj
      obtain ⟨env', F', e1, R', st⟩ := put _ _ S' U0 (putF_names hfs) p1 p2 x1.ap (fun b y => ⟨x1.live b y, x1.zf b y⟩)
      rw [e1] at ok
      refine ⟨a, A, dx, fs, rfl, hA, f1, f2, hlen, ?_⟩
      refine ok.1 env' rfl σ _ Z1 F' ⟨R', x1.st.trans st.1, fun j b y => ?_, fun j t0 => ⟨(x1.n.rok j t0).1.trans (st.2.2 j t0).1, fun h => ⟨((st.2.2 j t0).2 ((x1.n.rok j t0).1.mp h)).trans ((x1.n.rok j t0).2 h), rfl⟩⟩⟩
      rcases st.2.1 j b y with ⟨i', z⟩ | z | z
      · exact x1.n.all i' b z
      · exact (x1.st.new b (.inr z)).imp (fun ⟨i, _, y⟩ => ⟨i, y⟩) id
      · exact (x1.n.stp.dead z).imp (fun ⟨i, _, y⟩ => ⟨i, y⟩) id
    | _ => exact absurd rfl nb
end
end Mp

end
section
set_option Elab.async false
set_option linter.all false
set_option maxRecDepth 100000
set_option autoImplicit false
/-! MiniPy, part Xb: try with named clauses, at the layer's level; isinstance of what is held. -/
namespace Mp
open PySem PySem.Spec PyProof.Rows L2

/-- what a name of a clause is behind it: nothing -/
def offs (D : Ends) : Option Nat → Ends
  | none => D
  | some i => { nx := fun σ H => D.nx (σ.set i none) H, rt := D.rt, bk := fun σ H => D.bk (σ.set i none) H, ct := fun σ H => D.ct (σ.set i none) H }
def ons (σ : Sto) (a : Addr) : Option Nat → Sto
  | none => σ
  | some i => σ.set i (some (.ref a))
abbrev Cla := Value × Option Nat × (Addr → Value → Option Addr → TS)
/-- what the clauses wish, one behind the other, their names told -/
def wTry (K : PySem.W.Frag) (Wo : WX) (D : Ends) : List Cla → WX
  | [] => Wo
  | (c, i, ts) :: r => fun cls d σ H => ∃ b, PySem.W.exmOne K cls c = some b ∧ (b = true → ∀ a, H a = none → ts a cls d (offs D i) (ons σ a i) H) ∧ (b = false → wTry K Wo D r cls d σ H)
def nmOk (X : Cx) : Option Str → Option Nat → Prop
  | none, none => True
  | some n, some i => X.N[i]? = some n ∧ X.env.kindOf n = some .local
  | _, _ => False
inductive Clas (X : Cx) : List ExceptHandler → List Cla → Prop
  | nil : Clas X [] []
  | cons {x : Str} {c : Value} {i : Option Nat} {nm : Option Str} {ts : Addr → Value → Option Addr → TS} {st0 : Stmt} {su : List Stmt} {p1 p2 : Pos} {hl : List ExceptHandler} {l : List Cla} (hc : Names X x c) (hn : nmOk X nm i)
      (run : ∀ (a : Addr) (oe : Obj) (cls : Value) (d : Option Addr) (pn : List (Addr × Obj)), Zc cls d oe → (∃ vs, oe.data = .fields vs) → PSs (X.suite a ((a, oe) :: pn)) (st0 :: su) (ts a cls d)) (r : Clas X hl l) :
      Clas X (.ExceptHandler (some (.Name x p1)) nm (st0 :: su) p2 :: hl) ((c, i, ts) :: l)
section
variable {X : Cx} {body : List Stmt} {h0 : ExceptHandler} {hl : List ExceptHandler} {l : List Cla} {pos : Pos} {tb : WX → TS} {Wo : WX}
theorem ps_tryN (sk : X.stack = X.env :: X.outer) (fr : X.env.frame = some X.env.locals) (nd : X.N.Nodup) (tk : Takes X Wo)
    (bd : ∀ (W : WX) (pn : List (Addr × Obj)) (xe : Value → Shared → Prop), Takes (X.tr pn xe) W → PassesOwn (model X.prog X.w) X.A X.env xe → PSs (X.tr pn xe) body (tb W))
    (cl : Clas X (h0 :: hl) l) : PS X (.Try body (h0 :: hl) [] [] pos) (fun D σ H => tb (wTry X.K Wo D l) D σ H) := by
  refine ⟨fun pins s σ H D I want => ?_⟩
  have ok := I.ok
  have frs0 : X.A.frames = some (X.env :: X.outer) := by rw [ok.frames, sk]
  refine wpAny_Try_except ?_
  let catch0 : Value → Shared → Prop := fun e s₁ => wpAny (model X.prog X.w) X.A (noteFrame e X.env) (fun _ s₂ => wpAny (model X.prog X.w) X.A (setFlight e none) (fun _ s₃ => wpAny (model X.prog X.w) X.A (handleBy e X.env (h0 :: hl)) (SP X pins D) X.xe s₃) X.xe s₂) X.xe s₁
  refine wpAny_mono ((bd (wTry X.K Wo D l) (X.pn ++ pins) catch0 (fun u s' met => ?_) PassesOwn.looking).run [] s σ H D (I.toTry _) want) (fun f s1 done => ?_) (fun e s1 out => out)
  · obtain ⟨a, B, sI, pins', σ', H', cls, d, rfl, J', nb, up, sky, na, os, ag, wish⟩ := met
    have J : Inv X pins σ' H' sI := J'.ofTry ok
    have sky1 : Sky B (X.env :: X.outer) a (Zc cls d) X.env.locals s'.heap := by rw [← sk]; exact sky
    show wpAny (model X.prog X.w) X.A (noteFrame (.ref a) X.env) _ _ _
    refine Sky.land Zc.steady frs0 fr sky1 fun h3 fly3 up3 => ?_
    have J3 : Inv X pins σ' H' { s' with heap := h3 } := J.landed nb fly3.1 (up.trans up3) os ag
    obtain ⟨oe3, vs3, at3, z3, f3⟩ := fly3.there
    have apart : ∀ {h : Heap} {o : Obj} {vs : Array Value}, h.FunFrames B (X.env :: X.outer) → h.get? a = some o → o.data = .fields vs → a ∉ frs (X.env :: X.outer) := fun {h o vs} ff e dd mem => by
      obtain ⟨_, o', e', hnf⟩ := ff.mem mem
      rw [e] at e'; cases e'; exact hnf _ dd
    have nfr := apart fly3.2.2.1 at3 f3
    have nL : a ≠ X.env.locals := fun z => nfr (List.mem_filterMap.mpr ⟨X.env, List.mem_cons_self, by rw [fr, z]⟩)
    have nF : a ∉ X.fs := fun mem => by
      obtain ⟨e, he, q⟩ := List.mem_filterMap.mp mem; exact nfr (List.mem_filterMap.mpr ⟨e, List.mem_cons_of_mem _ he, q⟩)
    have S3 := J3.suite at3 f3 na nL nF
    suffices go : ∀ {hl' : List ExceptHandler} {l' : List Cla}, Clas X hl' l' → wTry X.K Wo D l' cls d σ' H' → wpAny (model X.prog X.w) X.A (handleBy (.ref a) X.env hl') (SP X pins D) X.xe { s' with heap := h3 } from go cl wish
    intro hl' l' cc
    induction cc with
    | nil =>
      intro wish
      refine wpAny_handleBy_nil ?_
      obtain ⟨k1, k2, k3, oe, vs, T, oT, ts', he, hz, hd, h1, hr⟩ := id fly3
      unfold PySem.passOn
      refine wpAny_bind (wpAny_field he hd h1 ?_)
      rw [if_neg (show ¬ ((Value.ref T == Value.none) = true) from by simp)]
      have on : wpAny (model X.prog X.w) X.A (setFlight (.ref a) X.env.frame) (fun _ s4 => wpAny (model X.prog X.w) X.A (throw (.ref a) : Sem Flow) (SP X pins D) X.xe s4) X.xe { s' with heap := h3 } := by
        rw [fr]
        refine HandSPX.setFlight_upZ fly3 fun h4 fly4 up4 => wpAny_throw (tk _ _ ⟨a, B, sI, pins, σ', H', cls, d, rfl, J, nb, (up.trans up3).trans up4, .inr (.inr (by rw [sk]; exact fly4)), na, os, ag, wish⟩)
      first
        | exact wpAny_bind (wpAny_pure (wpAny_bind on))
        | exact wpAny_bind on
    | @cons x c i nm ts st0 su p1 p2 hl2 l2 hc hn run r ih =>
      rintro ⟨b, e1, yes, no⟩
      refine wpAny_handleBy_cons (codeAny_handlers_test ?_) (by intro q; cases q)
      have LT : PySem.W.Looks (model X.prog X.w) h3 (typeOf (.ref a)) cls := fun A Q E s k q => wpAny_typeOf_ref (k _ _ at3) (by rw [z3.1]; exact q)
      have LM := PySem.W.exm_one (M := model X.prog X.w) (J3.kIn) LT e1
      have cls0 : ∀ {Q E : Value → Shared → Prop}, Q c { s' with heap := h3 } → wpAny (model X.prog X.w) (X.A.mark (some (.ref a))) (eval (.Name x p1) X.env) Q E { s' with heap := h3 } := fun {Q E} q => by
        obtain ⟨hg, hdbg, hm | ⟨hm, hv, hnn⟩⟩ := hc
        · exact ld_glob (X := X.suite a ((a, oe3) :: (X.pn ++ pins))) S3 hg hm q hdbg
        · exact ld_blt (X := X.suite a ((a, oe3) :: (X.pn ++ pins))) S3 hg hm hv q hnn hdbg
      refine cls0 (LM.here ?_)
      cases b with
      | false => exact ih (no rfl)
      | true =>
        have on := yes rfl a na
        cases nm with
        | none =>
          cases i with
          | some i => exact hn.elim
          | none =>
            refine codeAny_handlers_suite ?_
            refine HandSPX.lands_againZ fly3 fun h4 fly4 up4 => ?_
            have J4 : Inv X pins σ' H' { s' with heap := h4 } := J.landed nb fly4.1 ((up.trans up3).trans up4) os ag
            obtain ⟨oe4, vs4, at4, z4, f4⟩ := fly4.there
            refine wpAny_mono ((run a oe4 cls d (X.pn ++ pins) z4 ⟨_, f4⟩).run [] _ _ H' _ (J4.suite at4 f4 na nL nF) on) (fun f s6 out => ?_) (fun _ _ z => False.elim z)
            cases f with
            | ret u => obtain ⟨v6, σ6, H6, S6, r6, q6⟩ := out; exact ⟨_, _, _, S6.unsuite ok, r6, q6⟩
            | next | brk | cont => obtain ⟨σ6, H6, S6, q6⟩ := out; exact ⟨_, _, S6.unsuite ok, q6⟩
        | some n =>
          cases i with
          | none => exact hn.elim
          | some i =>
            obtain ⟨hi, hk⟩ := hn
            refine codeAny_handlers_suite_as ?_
            refine HandSPX.lands_againZ fly3 fun h4 fly4 up4 => ?_
            have J4 : Inv X pins σ' H' { s' with heap := h4 } := J.landed nb fly4.1 ((up.trans up3).trans up4) os ag
            obtain ⟨oe4, vs4, at4, z4, f4⟩ := fly4.there
            refine store_ok (X := X.suite a ((a, oe4) :: (X.pn ++ pins))) (v := .ref a) (J4.suite at4 f4 na nL nF) nd hi (show Loc X.env.scope n from .inl hk) rfl (fun s5 S5 => ?_) (.inr hk)
            refine wpAny_mono ((run a oe4 cls d (X.pn ++ pins) z4 ⟨_, f4⟩).run [] s5 _ H' _ S5 on) (fun f s6 out => ?_) (fun _ _ z => False.elim z)
            have gone : ∀ {σ6 : Sto} {H6 : Hp} {Q : Shared → Prop}, Inv (X.suite a ((a, oe4) :: (X.pn ++ pins))) [] σ6 H6 s6 → (∀ s7, Inv X pins (σ6.set i none) H6 s7 → Q s7) →
              wpAny (model X.prog X.w) X.A (do bindName X.env n .none; unbindBehindTheSuite X.env n p2) (fun _ s7 => Q s7) X.xe s6 := fun {σ6 H6 Q} S6 hq => gone_ok (S6.unsuite ok) nd hi hk hq
            cases f with
            | ret u => obtain ⟨v6, σ6, H6, S6, r6, q6⟩ := out; exact gone S6 fun s7 J7 => ⟨_, _, _, J7, r6, q6⟩
            | next | brk | cont => obtain ⟨σ6, H6, S6, q6⟩ := out; exact gone S6 fun s7 J7 => ⟨_, _, J7, q6⟩
  · cases f with
    | next => obtain ⟨σ', H', J', q⟩ := done; exact wpAny_execs_nil ⟨σ', H', J'.ofTry ok, q⟩
    | brk | cont => obtain ⟨σ', H', J', q⟩ := done; exact ⟨σ', H', J'.ofTry ok, q⟩
    | ret u => obtain ⟨v, σ', H', J', r, q⟩ := done; exact ⟨v, σ', H', J'.ofTry ok, r, q⟩
end

/-! ### isinstance of what is held, its dict made -/
section
open PySem.W
variable {prog : Program} {w : World} {A : Around} {E : Value → Shared → Prop} {s : Shared} {K : Frag} {x D : Addr} {ox : Obj} {od : Option Obj}
theorem bound_own {C : Addr} {name : Str} {a g : Value} (hc : (clsIn K C).isSome = true) (ha : findIn K (.ref C) name = some (some a)) (hg : specialIn K a "__get__" = some (some g)) (ht : takesIn K a = some true) : findObj K C od name = some (.bind g a) := by
  obtain ⟨cd, hc⟩ := Option.isSome_iff_exists.mp hc
  unfold findObj
  rw [hc, Option.bind_some, ha, Option.bind_some]; simp [hg, ht]
theorem cls_of_exc {Q : Option Value → Shared → Prop} (T : ExcC K D) (X : K.In s.heap) (I : InstAt s.heap x ox D od) (h : Q (some (.ref D)) { s with toks := s.toks + 1 }) : wpAny (model prog w) A (getAttr? (.ref x) "__class__") Q E s := by
  have bnd : findObj K D od "__class__" = some (.bind (.builtin "getset_descriptor.__get__") (.builtin "object.__class__")) := bound_own (by obtain ⟨cd, hc, _⟩ := any_some T.hd; rw [hc]; rfl) T.ha T.hn T.ht
  obtain ⟨hp, g, d, t, os⟩ := s
  have ty0 := I.type (M := model prog w)
  have find := looks_find (M := model prog w) X I bnd
  have sub : Looks (model prog w) hp (isInstance (.ref x) (.type "BaseException")) true := ty0.andThen (looks_subIn X T.hs)
  have n2 : (Value.builtin "BaseException.__getattribute__" == Value.builtin "object.__getattribute__") = false := by decide +kernel
  have n1 : (onTheHeap (Value.ref D) && Value.builtin "BaseException.__getattribute__" == Value.builtin "object.__getattribute__") = false := by rw [n2]; rfl
  unfold getAttr? getAttrBy? getAttrBy
  refine wpAny_bind (wpAny_mkText (wpAny_bind (wpAny_attempt (wpAny_holding (wpAny_bind (ty0.at (wpAny_bind ((looks_findIn (M := model prog w) X T.hg).at ?_))))))))
  show wpAny _ _ (if (onTheHeap (Value.ref D) && Value.builtin "BaseException.__getattribute__" == Value.builtin "object.__getattribute__") = true then _ else _) _ _ _
  rw [n1, if_neg Bool.false_ne_true]
  unfold getAttrByItsOwn hookBefore
  refine wpAny_bind ?_
  rw [if_pos (show onTheHeap (Value.ref D) = true from rfl)]
  refine (looks_findIn (M := model prog w) X T.hk).at (wpAny_bind (wpAny_attempt (wpAny_holding ?_)))
  unfold callGetattribute
  rw [show (false && onTheHeap (Value.builtin "BaseException.__getattribute__")) = false from rfl, if_neg Bool.false_ne_true]
  unfold boundAndCalled
  rw [PySem.F.excAttr_ValueError.ga.bind (.ref x)]
  refine wpAny_bind (wpAny_pure ?_)
  show wpAny _ _ (call (.builtin "BaseException.__getattribute__") [.ref x, .str "__class__" t]) _ _ _
  refine wpAny_call (PySem.codeAny_call_builtin PySem.F.excAttr_ValueError.ga.plain PySem.F.entry_bexc_ga (@check_slot (model prog w) _ _ ⟨hp, g, d, t + 1, os⟩ "BaseException.__getattribute__" "BaseException" "__getattribute__" (.ref x) [.str "__class__" t] [] _ (by decide +kernel) (by decide +kernel) sub (PySem.F.args_bexc_ga (.ref x) (.str "__class__" t)) ?_))
  unfold Builtin.«object.__getattribute__»
  refine wpAny_bind (wpAny_of_eq (a := ((Value.ref x : Value), [Value.str "__class__" t])) (by first | rfl | (simp only [slotArgs]; rfl)) (wpAny_bind (wpAny_pure (wpAny_bind (ty0.at (wpAny_bind (find.at ?_)))))))
  show wpAny _ _ (holding [Value.builtin "object.__class__"] (call (.builtin "getset_descriptor.__get__") [.builtin "object.__class__", .ref x, .ref D]) >>= ret) _ _ _
  refine wpAny_bind (wpAny_holding (wpAny_call (class_get (s := ⟨hp, g, d, t + 1, os⟩) (ox := ox) (od := od) X I T.hm (wpAny_pure ?_))))
  show wpAny _ _ (handedOut (.ref D)) _ _ _
  rw [handedOut_of (v := .ref D) rfl]
  first
    | exact wpAny_pure (wpAny_pure h)
    | exact wpAny_pure h
    | exact wpAny_pure (wpAny_bind (wpAny_pure (wpAny_pure h)))
theorem kitx_held (T : ExcC K D) : KitX K (.ref x) (.ref D) (fun h => InstAt h x ox D od) := by
  obtain ⟨cdD, hcD, _⟩ := any_some T.hd
  refine ⟨fun _ _ _ I => I.type, fun _ _ X _ => ?_, fun h tp dd its n sl X htp => Bool.eq_false_iff.mpr fun q => ?_, fun X I k => cls_of_exc T X I k⟩
  · unfold clsIn at hcD
    split at hcD
    · rename_i o1 d1 cd1 sl1 ho
      intro A1 Q1 E1 s1 k q
      unfold isType loadHead
      exact wpAny_bind (wpAny_loadPart (k _ _ (X _ _ ho)) (wpAny_pure q))
    · cases hcD
  · have e : D = tp := Value.ref.inj (beq_iff_eq.mp q)
    subst e
    unfold clsIn at hcD
    split at hcD
    · rename_i o1 d1 cd1 sl1 ho
      have z := (X _ _ ho).symm.trans htp
      cases z
    · cases hcD
end
/-- isinstance(e, c), e what the suite holds, its dict there -/
theorem call_isH {X : Cx} {a D : Addr} {oe : Obj} {pn : List (Addr × Obj)} (C : ExcC X.K D) {d : Option Addr} (hz : Zc (.ref D) d oe) (hf : ∃ vs, oe.data = .fields vs) (live : ∀ (pins : List (Addr × Obj)) (σ : Sto) (H : Hp) (s : Shared), L2.Inv (X.suite a ((a, oe) :: pn)) pins σ H s → ∀ dd, d = some dd → (∃ fs, H dd = some (.xd fs)) → ∃ od, s.heap.get? dd = some od) :
    CallR (X.suite a ((a, oe) :: pn)) (.builtin "isinstance") (fun xs H Q => ∃ (c : V) (cv : Value) (b : Bool) (dd : Addr) (fs : List (Str × V)), xs = [.ref a, c] ∧ d = some dd ∧ H dd = some (.xd fs) ∧ (∀ u, RelV c u → u = cv) ∧ PySem.W.kitOne X.K (.ref D) cv = some b ∧ Q (.bl b) H) := by
  intro pins s σ H xs us Q I r h
  obtain ⟨c, cv, b, dd, fs, rfl, hd, hx, hcv, e, q⟩ := h
  cases r with
  | cons rx rr =>
    cases rr with
    | cons rt rr =>
      cases rr
      cases rx
      have ec := hcv _ rt
      subst ec
      obtain ⟨hget, _⟩ := I.pin (a, oe) (List.mem_append.mpr (.inl List.mem_cons_self))
      obtain ⟨vs, hv⟩ := hf
      obtain ⟨od, hod⟩ := live pins σ H s I dd hd ⟨fs, hx⟩
      have J : PySem.W.InstAt s.heap a oe D (some od) := ⟨hget, hz.1, by unfold PySem.W.notCls; rw [hv] <;> rfl, by rw [hz.2, hd]; exact hod⟩
      exact PySem.W.kia_one (kitx_held C) I.kIn J e (fun z => nomatch z) fun tk => ⟨.bl b, H, I.kept (t' := tk) fun _ _ z => z, rfl, q⟩
theorem xd_live {X : Cx} {pins : List (Addr × Obj)} {σ : Sto} {H : Hp} {s : Shared} (I : L2.Inv X pins σ H s) {dd : Addr} {fs : List (Str × V)} (h : H dd = some (.xd fs)) : ∃ od, s.heap.get? dd = some od := by
  have hx : ObjOk X.prog X.w H s.heap dd (.xd fs) := I.hok dd _ h
  obtain ⟨mA, hns, hr⟩ := hx
  obtain ⟨od, ho, hl⟩ := lookIn_ns hns
  exact ⟨od, ho⟩
end Mp

end
section
set_option Elab.async false
set_option linter.all false
set_option maxRecDepth 100000
set_option autoImplicit false
/-! MiniPy, part Xc: raise, try, except suites. -/
namespace Mp
open PySem PySem.Spec PyProof.Rows L2

/-- only new objects, frozen ones among them -/
structure Grow (H Z H' Z' : Hp) : Prop where
  hh : Same H H'
  zz : Same Z Z'
  sub : Same Z' H'
  nz : ∀ b o, Z' b = some o → Z b = some o ∨ H b = none
section
variable {H Z H1 Z1 H2 Z2 : Hp}
theorem Grow.refl (s : Same Z H) : Grow H Z H Z := ⟨Same.refl H, Same.refl Z, s, fun _ _ h => .inl h⟩
theorem Grow.trans (a : Grow H Z H1 Z1) (b : Grow H1 Z1 H2 Z2) : Grow H Z H2 Z2 := ⟨a.hh.trans b.hh, a.zz.trans b.zz, b.sub, fun c o h => by
  rcases b.nz c o h with x | x
  · exact a.nz c o x
  · refine .inr ?_
    cases e : H c with
    | none => rfl
    | some u => rw [a.hh c u e] at x; cases x⟩
theorem Grow.new {p : Addr} {o : HO} (s : Same Z H) (hp : H p = none) : Grow H Z (upd H p o) (upd Z p o) := by
  have st := (Stp.newZ (A := fun _ => False) (o := o) s hp)
  exact ⟨fun b u e => st.1.keep b u e fun x => x, st.1.zz, st.2, fun b u e => by
    rcases st.1.nz b u e with x | x | x
    · exact .inl x
    · exact x.elim
    · exact .inr x⟩
theorem XRel.grow {C : Ct} {x : Exn} {cls : Value} {dd : Option Addr} (h : XRel C H Z x cls dd) (g : Grow H Z H1 Z1) : XRel C H1 Z1 x cls dd := by
  obtain ⟨A, h1, h2, d, fs, h3, h4, h5, h6⟩ := h
  exact ⟨A, h1, h2, d, fs, h3, g.hh _ _ h4, h5, dpAll_same g.zz h6⟩
end
theorem exmg_uniq {C : Ct} {c : Str} {A B : Addr} (h : C.mg c = some (.ref A)) (h' : C.mg c = some (.ref B)) : A = B := by
  rw [h] at h'
  cases h'
  rfl
theorem lookA_lookup {α : Type} : ∀ {fs : List (Str × α)} {f : Str}, fs.lookup f = lookA fs f
  | [], _ => rfl
  | (g, x) :: r, f => by
    rw [List.lookup_cons]
    unfold lookA
    by_cases h : g = f
    · subst h; simp
    · rw [if_neg h]
      have : (f == g) = false := by simpa using fun z => h z.symm
      rw [this]
      exact lookA_lookup
theorem look_pair {K : PySem.W.Frag} {Z : Hp} {f : Str} : ∀ {fs : List (Str × V)} {xs : List (Str × PyData)} {d : PyData}, fs.map (·.1) = xs.map (·.1) → DzAll K Z (fs.map (·.2)) (xs.map (·.2)) → lookA xs f = some d → ∃ v, lookA fs f = some v ∧ Dz K Z v d
  | [], [], _, _, _, h => by cases h
  | [], _ :: _, _, h, _, _ => by simp at h
  | _ :: _, [], _, h, _, _ => by simp at h
  | (g, v) :: fs, (g', x) :: xs, d, h, z, l => by
    simp only [List.map_cons, List.cons.injEq] at h
    obtain ⟨rfl, h⟩ := h
    cases z with
    | cons z1 z2 =>
      unfold lookA at l ⊢
      by_cases q : g = f
      · rw [if_pos q] at l ⊢
        cases l
        exact ⟨v, rfl, z1⟩
      · rw [if_neg q] at l ⊢
        exact look_pair h z2 l

/-! ### except suites -/
section
variable {G : Gl} {N : List Str} {sc : Scope} {k : Nat} {X : Cx} {i : Option Nat} {a : Addr} {oe : Obj} {cls : Value} {dd : Option Addr} {pn : List (Addr × Obj)} {x : Exn}
def held (σ : Sto) (a : Addr) : Option Nat → Prop
  | none => True
  | some i => σ[i]? = some (some (.ref a))
theorem suite_name {j : Nat} {y : Str} {pos : Pos} (c : CxOk N sc k X) (h : nameB N sc j y = true) : PE (X.suite a ((a, oe) :: pn)) (.Name y pos) (tVar j) := by
  unfold nameB at h
  simp only [Bool.and_eq_true, decide_eq_true_eq, Bool.not_eq_true'] at h
  exact pe_var (X := X.suite a ((a, oe) :: pn)) (by show X.N[j]? = _; rw [c.nm]; exact h.1.1.1) (by show Vis X.env.scope y; rw [c.sc]; exact visB_vis h.1.1.2) h.1.2 h.2
theorem hx_tup {es : Hx} {ds : List PyData} : evHx G x (.tup es) = some (.tuple ds) → evHxs G x es = some ds ∧ ds.length ≤ sizeLine := fun h => by
  unfold evHx at h
  cases q : evHxs G x es with
  | none => rw [q] at h; cases h
  | some l =>
    rw [q] at h
    simp only at h
    split at h
    · rename_i hl
      cases h
      exact ⟨rfl, hl⟩
    · cases h
theorem isi_run {c : Str} (cx : CxOk N sc k X) (gk : GOk G (ctOf X) k) (hz : Zc cls dd oe) (hf : ∃ vs, oe.data = .fields vs) {p1 p2 p3 p4 : Pos} {xn y : Str} {j : Nat} (g : globB sc xn = true) (gc : globB sc c = true) (hx : xn = ("isinstance" : Str)) (nb : nameB N sc j y = true)
    {b : Bool} (ev : G.hit x.c c = some b) {σ : Sto} {H Z : Hp} (st : σ[j]? = some (some (.ref a))) (xr : XRel (ctOf X) H Z x cls dd) {Q : VK} (q : Q (.bl b) H) :
    wE (X.suite a ((a, oe) :: pn)) (.Call (.Name xn p1) [.Name y p2, .Name c p3] [] p4) σ H Q := by
  subst hx
  obtain ⟨A, v, cv, m1, rv, uq, m2, e1, e2, C⟩ := gk.hit _ _ _ ev
  obtain ⟨A', m1', e3, d, fs, e4, hd, k1, k2⟩ := xr
  have eA := exmg_uniq m1 m1'
  subst eA
  subst e3
  subst e4
  obtain ⟨g1, g2, g3⟩ := globB_gl cx g
  obtain ⟨c1, c2, c3⟩ := globB_gl cx gc
  have pc : PE (X.suite a ((a, oe) :: pn)) (.Name c p3) (tC v) := by
    rcases m2 with m | ⟨m, bb, nn⟩
    · exact pe_glob (X := X.suite a ((a, oe) :: pn)) c1 m rv c2
    · exact pe_bltn (X := X.suite a ((a, oe) :: pn)) c1 m bb rv nn c2
  refine wE_of (pe_callB (X := X.suite a ((a, oe) :: pn)) (call_isH C hz hf fun pins σ H s I dd2 e ⟨fs2, h2⟩ => xd_live I h2) g1 gk.rg.2.2.2.1 (by decide +kernel) (pa_cons (suite_name cx nb) (pa_cons pc pa_nil)) g3 g2) ?_
  exact ⟨.ref a, st, v, cv, b, d, fs, rfl, rfl, hd, uq, e1, q⟩

/-- an expression of a suite -/
def HxE (G : Gl) (N : List Str) (sc : Scope) (i : Option Nat) (X : Cx) (a : Addr) (oe : Obj) (pn : List (Addr × Obj)) (x : Exn) (cls : Value) (dd : Option Addr) (m : Hx) : Prop := ∀ (e : Expr), chkHx N sc i m e = true → ∀ d, evHx G x m = some d → ∀ (σ : Sto) (H Z : Hp), held σ a i → Same Z H → XRel (ctOf X) H Z x cls dd →
  ∀ Q : VK, (∀ v H' Z', Grow H Z H' Z' → Dz X.K Z' v d → Q v H') → wE (X.suite a ((a, oe) :: pn)) e σ H Q
def HxEs (G : Gl) (N : List Str) (sc : Scope) (i : Option Nat) (X : Cx) (a : Addr) (oe : Obj) (pn : List (Addr × Obj)) (x : Exn) (cls : Value) (dd : Option Addr) (m : Hx) : Prop := ∀ (es : List Expr), chkHxs N sc i m es = true → ∀ ds, evHxs G x m = some ds → ∀ (σ : Sto) (H Z : Hp), held σ a i → Same Z H → XRel (ctOf X) H Z x cls dd →
  ∀ Q : List V → Hp → Prop, (∀ vs H' Z', Grow H Z H' Z' → DzAll X.K Z' vs ds → Q vs H') → wA (X.suite a ((a, oe) :: pn)) es σ H Q
theorem hx_sd (cx : CxOk N sc k X) (gk : GOk G (ctOf X) k) (hz : Zc cls dd oe) (hf : ∃ vs, oe.data = .fields vs) : ∀ m : Hx, HxE G N sc i X a oe pn x cls dd m ∧ HxEs G N sc i X a oe pn x cls dd m
  | .con d => by
    refine ⟨fun e hc d' hd σ H Z st zh xr Q ok => ?_, fun es hc => by cases es <;> simp [chkHxs] at hc⟩
    cases hd
    have fin : ∀ v, Dz X.K Z v d → Q v H := fun v h => ok v H Z (Grow.refl zh) h
    cases e with
    | Constant c _ _ =>
      simp only [chkHx] at hc
      cases c with
      | none => cases (sameC_eq (show sameC PyData.none d = true from hc)); exact wE_of pe_non (fin _ .non)
      | bool b => cases (sameC_eq (show sameC (PyData.bool b) d = true from hc)); exact wE_of pe_bl (fin _ (.bl b))
      | int b => cases (sameC_eq (show sameC (PyData.int b) d = true from hc)); exact wE_of pe_int (fin _ (.int b))
      | str b => cases (sameC_eq (show sameC (PyData.str b) d = true from hc)); exact wE_of pe_str (fin _ (.str b))
      | _ => simp [conD] at hc
    | _ => simp [chkHx] at hc
  | .fld f => by
    refine ⟨fun e hc d hd σ H Z st zh xr Q ok => ?_, fun es hc => by cases es <;> simp [chkHxs] at hc⟩
    have sh : ∃ y p1 p2, e = .Attribute (.Name y p1) f p2 ∧ ∃ j, i = some j ∧ nameB N sc j y = true := by
      have s0 : ∃ y p1 g p2, e = .Attribute (.Name y p1) g p2 := by
        unfold chkHx at hc
        split at hc <;> first | contradiction | exact ⟨_, _, _, _, rfl⟩
      obtain ⟨y, p1, g, p2, rfl⟩ := s0
      simp only [chkHx, Bool.and_eq_true, decide_eq_true_eq] at hc
      obtain ⟨rfl, hc⟩ := hc
      cases i with
      | none => cases hc
      | some j => exact ⟨_, _, _, rfl, j, rfl, hc⟩
    obtain ⟨y, p1, p2, rfl, j, rfl, nb⟩ := sh
    unfold evHx at hd
    cases qf : G.exn x.c with
    | none => rw [qf] at hd; cases hd
    | some fl =>
      rw [qf] at hd
      simp only at hd
      split at hd
      case isFalse => cases hd
      rename_i hm
      obtain ⟨A, ff, fd, ps, jj, _, m1, _, C, nof, _⟩ := gk.exn _ _ qf
      obtain ⟨A', m1', rfl, d0, fs, rfl, hx, k1, k2⟩ := xr
      have eA := exmg_uniq m1 m1'
      subst eA
      obtain ⟨v, l1, z1⟩ := look_pair k1 k2 hd
      refine wE_of (pe_xf (X := X) (C := A) ⟨C.hg, C.hk, C.hs, C.hd⟩ (nof f hm) hz hf (suite_name cx nb) rfl) ?_
      exact ⟨.ref a, st, rfl, rfl, d0, fs, v, rfl, hx, by rw [lookA_lookup]; exact l1, ok v H Z (Grow.refl zh) z1⟩
  | .isi c => by
    refine ⟨fun e hc d hd σ H Z st zh xr Q ok => ?_, fun es hc => by cases es <;> simp [chkHxs] at hc⟩
    have sh : ∃ xn y p1 p2 p3 p4, e = .Call (.Name xn p1) [.Name y p2, .Name c p3] [] p4 ∧ xn = ("isinstance" : Str) ∧ globB sc xn = true ∧ globB sc c = true ∧ ∃ j, i = some j ∧ nameB N sc j y = true := by
      have s0 : ∃ xn y z p1 p2 p3 p4, e = .Call (.Name xn p1) [.Name y p2, .Name z p3] [] p4 := by
        unfold chkHx at hc
        split at hc <;> first | contradiction | exact ⟨_, _, _, _, _, _, _, rfl⟩
      obtain ⟨xn, y, z, p1, p2, p3, p4, rfl⟩ := s0
      simp only [chkHx, Bool.and_eq_true, decide_eq_true_eq] at hc
      obtain ⟨⟨⟨⟨h1, h2⟩, rfl⟩, h4⟩, hc⟩ := hc
      cases i with
      | none => cases hc
      | some j => exact ⟨_, _, _, _, _, _, rfl, h1, h2, h4, j, rfl, hc⟩
    obtain ⟨xn, y, p1, p2, p3, p4, rfl, h1, h2, h3, j, rfl, nb⟩ := sh
    unfold evHx at hd
    obtain ⟨b, eb, rfl⟩ := Option.map_eq_some_iff.mp hd
    exact isi_run cx gk hz hf h2 h3 h1 nb eb st xr (ok _ H Z (Grow.refl zh) (.bl b))
  | .nil => by
    refine ⟨fun e hc => by cases e <;> simp [chkHx] at hc, fun es hc ds hd σ H Z st zh xr Q ok => ?_⟩
    cases es with
    | nil => unfold evHxs at hd; cases hd; exact wA_of pa_nil (ok [] H Z (Grow.refl zh) .nil)
    | cons y ys => simp [chkHxs] at hc
  | .cons m r => by
    refine ⟨fun e hc => by cases e <;> simp [chkHx] at hc, fun es hc ds hd σ H Z st zh xr Q ok => ?_⟩
    cases es with
    | nil => simp [chkHxs] at hc
    | cons y ys =>
      simp only [chkHxs, Bool.and_eq_true] at hc
      obtain ⟨⟨c1, c2⟩, c3⟩ := hc
      unfold evHxs at hd
      cases q1 : evHx G x m with
      | none => rw [q1] at hd; cases hd
      | some d1 =>
        cases q2 : evHxs G x r with
        | none => rw [q1, q2] at hd; cases hd
        | some ds2 =>
          rw [q1, q2] at hd
          cases hd
          refine wA_of (pa_cons pe_w pa_w (plS_star c3)) ?_
          refine (hx_sd cx gk hz hf m).1 y c1 d1 q1 σ H Z st zh xr _ fun v H1 Z1 g1 z1 => ?_
          refine (hx_sd cx gk hz hf r).2 ys c2 ds2 q2 σ H1 Z1 st g1.sub (xr.grow g1) _ fun vs H2 Z2 g2 z2 => ?_
          exact ok _ H2 Z2 (g1.trans g2) (.cons (dp_same g2.zz z1) z2)
  | .tup es => by
    refine ⟨fun e hc d hd σ H Z st zh xr Q ok => ?_, fun es hc => by cases es <;> simp [chkHxs] at hc⟩
    cases e with
    | Tuple xs _ pos =>
      simp only [chkHx] at hc
      have sh : ∃ ds, d = .tuple ds := by
        unfold evHx at hd
        cases q : evHxs G x es with
        | none => rw [q] at hd; cases hd
        | some l =>
          rw [q] at hd
          simp only at hd
          split at hd
          · cases hd; exact ⟨_, rfl⟩
          · cases hd
      obtain ⟨ds, rfl⟩ := sh
      obtain ⟨q1, hl⟩ := hx_tup hd
      refine wE_of (pe_tup pa_w) ?_
      refine (hx_sd cx gk hz hf es).2 xs hc ds q1 σ H Z st zh xr _ fun vs H1 Z1 g1 z1 => ?_
      refine ⟨by rw [dpAll_len z1]; exact hl, fun p hp => ?_⟩
      have g2 := Grow.new (o := HO.tup vs) g1.sub hp
      refine ok (.ref p) _ _ (g1.trans g2) ?_
      exact .tup (.inl (.inl upd_same)) (dpAll_same g2.zz z1)
    | _ => simp [chkHx] at hc
  | .and m r => by
    refine ⟨fun e hc d hd σ H Z st zh xr Q ok => ?_, fun es hc => by cases es <;> simp [chkHxs] at hc⟩
    have sh : ∃ y z rr pos, e = .BoolOp .And (y :: z :: rr) pos ∧ chkHx N sc i m y = true ∧ chkHx N sc i r (.BoolOp .And (z :: rr) pos) = true := by
      have s0 : ∃ y z rr pos, e = .BoolOp .And (y :: z :: rr) pos := by
        unfold chkHx at hc
        split at hc <;> first | contradiction | exact ⟨_, _, _, _, rfl⟩
      obtain ⟨y, z, rr, pos, rfl⟩ := s0
      simp only [chkHx, Bool.and_eq_true] at hc
      exact ⟨_, _, _, _, rfl, hc.1, hc.2⟩
    obtain ⟨y, z, rr, pos, rfl, c1, c2⟩ := sh
    unfold evHx at hd
    refine wE_of (pe_and (pos := pos) pe_w pe_w) ?_
    cases q1 : evHx G x m with
    | none => rw [q1] at hd; cases hd
    | some d1 =>
      rw [q1] at hd
      refine (hx_sd cx gk hz hf m).1 y c1 d1 q1 σ H Z st zh xr _ fun v H1 Z1 g1 z1 => ?_
      cases z1 with
      | bl b =>
        refine ⟨b, rfl, ?_⟩
        cases b with
        | false => cases hd; exact ok _ H1 Z1 g1 (.bl _)
        | true => exact (hx_sd cx gk hz hf r).1 _ c2 d hd σ H1 Z1 st g1.sub (xr.grow g1) _ fun v2 H2 Z2 g2 z2 => ok v2 H2 Z2 (g1.trans g2) z2
      | _ => cases hd
  | .or m r => by
    refine ⟨fun e hc d hd σ H Z st zh xr Q ok => ?_, fun es hc => by cases es <;> simp [chkHxs] at hc⟩
    have sh : ∃ y z rr pos, e = .BoolOp .Or (y :: z :: rr) pos ∧ chkHx N sc i m y = true ∧ chkHx N sc i r (.BoolOp .Or (z :: rr) pos) = true := by
      have s0 : ∃ y z rr pos, e = .BoolOp .Or (y :: z :: rr) pos := by
        unfold chkHx at hc
        split at hc <;> first | contradiction | exact ⟨_, _, _, _, rfl⟩
      obtain ⟨y, z, rr, pos, rfl⟩ := s0
      simp only [chkHx, Bool.and_eq_true] at hc
      exact ⟨_, _, _, _, rfl, hc.1, hc.2⟩
    obtain ⟨y, z, rr, pos, rfl, c1, c2⟩ := sh
    unfold evHx at hd
    refine wE_of (pe_or (pos := pos) pe_w pe_w) ?_
    cases q1 : evHx G x m with
    | none => rw [q1] at hd; cases hd
    | some d1 =>
      rw [q1] at hd
      refine (hx_sd cx gk hz hf m).1 y c1 d1 q1 σ H Z st zh xr _ fun v H1 Z1 g1 z1 => ?_
      cases z1 with
      | bl b =>
        refine ⟨b, rfl, ?_⟩
        cases b with
        | true => cases hd; exact ok _ H1 Z1 g1 (.bl _)
        | false => exact (hx_sd cx gk hz hf r).1 _ c2 d hd σ H1 Z1 st g1.sub (xr.grow g1) _ fun v2 H2 Z2 g2 z2 => ok v2 H2 Z2 (g1.trans g2) z2
      | _ => cases hd
  | .not m => by
    refine ⟨fun e hc d hd σ H Z st zh xr Q ok => ?_, fun es hc => by cases es <;> simp [chkHxs] at hc⟩
    have sh : ∃ y pos, e = .UnaryOp .Not y pos ∧ chkHx N sc i m y = true := by
      have s0 : ∃ y pos, e = .UnaryOp .Not y pos := by
        unfold chkHx at hc
        split at hc <;> first | contradiction | exact ⟨_, _, rfl⟩
      obtain ⟨y, pos, rfl⟩ := s0
      exact ⟨_, _, rfl, by simpa only [chkHx] using hc⟩
    obtain ⟨y, pos, rfl, c1⟩ := sh
    unfold evHx at hd
    refine wE_of (pe_not pe_w) ?_
    cases q1 : evHx G x m with
    | none => rw [q1] at hd; cases hd
    | some d1 =>
      rw [q1] at hd
      refine (hx_sd cx gk hz hf m).1 y c1 d1 q1 σ H Z st zh xr _ fun v H1 Z1 g1 z1 => ?_
      cases z1 with
      | bl b => cases hd; exact ⟨b, rfl, ok _ H1 Z1 g1 (.bl _)⟩
      | _ => cases hd
  | .one m => by
    refine ⟨fun e hc d hd σ H Z st zh xr Q ok => ?_, fun es hc => by cases es <;> simp [chkHxs] at hc⟩
    have sh : ∃ op y pos, e = .BoolOp op [y] pos ∧ chkHx N sc i m y = true := by
      have s0 : ∃ op y pos, e = .BoolOp op [y] pos := by
        unfold chkHx at hc
        split at hc <;> first | contradiction | exact ⟨_, _, _, rfl⟩
      obtain ⟨op, y, pos, rfl⟩ := s0
      exact ⟨_, _, _, rfl, by simpa only [chkHx] using hc⟩
    obtain ⟨op, y, pos, rfl, c1⟩ := sh
    unfold evHx at hd
    refine wE_of (pe_one pe_w) ?_
    exact (hx_sd cx gk hz hf m).1 y c1 d hd σ H Z st zh xr Q ok
end
end Mp

end
section
set_option Elab.async false
set_option linter.all false
set_option maxRecDepth 100000
set_option autoImplicit false
/-! MiniPy, part Xd: raise, try are sound. -/
namespace Mp
open PySem PySem.Spec PyProof.Rows L2

theorem hb_some {o : Option PyData} {b : Bool} (h : hb o = some b) : o = some (.bool b) := by
  cases o with
  | none => cases h
  | some d => cases d <;> first | (cases h; rfl) | cases h
section
variable {G : Gl} {N : List Str} {sc : Scope} {k : Nat} {X : Cx} {i : Option Nat} {a : Addr} {oe : Obj} {cls : Value} {dd : Option Addr} {pn : List (Addr × Obj)} {x : Exn}
theorem ht_sd (cx : CxOk N sc k X) (gk : GOk G (ctOf X) k) (hz : Zc cls dd oe) (hf : ∃ vs, oe.data = .fields vs) : ∀ (m : Hx) (e : Expr), chkHt N sc i m e = true → ∀ b, evHx G x m = some (.bool b) → ∀ (σ : Sto) (H Z : Hp), held σ a i → Same Z H → XRel (ctOf X) H Z x cls dd →
    ∀ Q : Bool → Hp → Prop, Q b H → wT (X.suite a ((a, oe) :: pn)) e σ H Q ∧ ((∃ op xs p, e = .BoolOp op xs p) → wPW (X.suite a ((a, oe) :: pn)) e σ H Q)
  | .isi c, e, hc, b, hd, σ, H, Z, st, zh, xr, Q, ok => by
    unfold chkHt at hc
    rw [Bool.and_eq_true] at hc
    refine ⟨wT_of (pt_truth pe_w (plT_true hc.2)) ?_, fun ⟨_, _, _, h⟩ => by rw [h] at hc; simp [plT] at hc⟩
    have sh : ∃ xn y p1 p2 p3 p4, e = .Call (.Name xn p1) [.Name y p2, .Name c p3] [] p4 ∧ xn = ("isinstance" : Str) ∧ globB sc xn = true ∧ globB sc c = true ∧ ∃ j, i = some j ∧ nameB N sc j y = true := by
      clear hd st
      have hd1 := hc.1
      have s0 : ∃ xn y z p1 p2 p3 p4, e = .Call (.Name xn p1) [.Name y p2, .Name z p3] [] p4 := by
        unfold chkHx at hd1
        split at hd1 <;> first | contradiction | exact ⟨_, _, _, _, _, _, _, rfl⟩
      obtain ⟨xn, y, z, p1, p2, p3, p4, rfl⟩ := s0
      simp only [chkHx, Bool.and_eq_true, decide_eq_true_eq] at hd1
      obtain ⟨⟨⟨⟨h1, h2⟩, rfl⟩, h4⟩, hd1⟩ := hd1
      cases i with
      | none => cases hd1
      | some j => exact ⟨_, _, _, _, _, _, rfl, h1, h2, h4, j, rfl, hd1⟩
    obtain ⟨xn, y, p1, p2, p3, p4, rfl, h1, h2, h3, j, rfl, nb⟩ := sh
    unfold evHx at hd
    obtain ⟨b', eb, e2⟩ := Option.map_eq_some_iff.mp hd
    cases e2
    exact isi_run cx gk hz hf h2 h3 h1 nb eb st xr ⟨b, rfl, ok⟩
  | .not m, e, hc, b, hd, σ, H, Z, st, zh, xr, Q, ok => by
    have sh : ∃ y pos, e = .UnaryOp .Not y pos ∧ chkHt N sc i m y = true := by
      have s0 : ∃ y pos, e = .UnaryOp .Not y pos := by
        unfold chkHt at hc
        split at hc <;> first | contradiction | exact ⟨_, _, rfl⟩ | (rename_i h; exact absurd h (by simp))
      obtain ⟨y, pos, rfl⟩ := s0
      exact ⟨_, _, rfl, by simpa only [chkHt] using hc⟩
    obtain ⟨y, pos, rfl, c1⟩ := sh
    unfold evHx at hd
    cases q1 : evHx G x m with
    | none => rw [q1] at hd; cases hd
    | some d1 =>
      rw [q1] at hd
      cases d1 with
      | bool b1 =>
        cases hd
        refine ⟨wT_of (pt_not pt_w) ?_, fun ⟨_, _, _, h⟩ => by cases h⟩
        exact (ht_sd cx gk hz hf m y c1 b1 q1 σ H Z st zh xr _ ok).1
      | _ => cases hd
  | .one m, e, hc, b, hd, σ, H, Z, st, zh, xr, Q, ok => by
    have sh : ∃ op y pos, e = .BoolOp op [y] pos ∧ chkHt N sc i m y = true := by
      have s0 : ∃ op y pos, e = .BoolOp op [y] pos := by
        unfold chkHt at hc
        split at hc <;> first | contradiction | exact ⟨_, _, _, rfl⟩ | (rename_i h; exact absurd h (by simp))
      obtain ⟨op, y, pos, rfl⟩ := s0
      exact ⟨_, _, _, rfl, by simpa only [chkHt] using hc⟩
    obtain ⟨op, y, pos, rfl, c1⟩ := sh
    unfold evHx at hd
    have h := (ht_sd cx gk hz hf m y c1 b hd σ H Z st zh xr Q ok).1
    have g : wPW (X.suite a ((a, oe) :: pn)) (.BoolOp op [y] pos) σ H Q := by
      cases op with
      | And => exact wPW_of (pw_and1 pt_w) h
      | Or => exact wPW_of (pw_or1 pt_w) h
    exact ⟨fun pins s I => g _ pins s I, fun _ => g⟩
  | .and m r, e, hc, b, hd, σ, H, Z, st, zh, xr, Q, ok => by
    have sh : ∃ y z rr pos, e = .BoolOp .And (y :: z :: rr) pos ∧ chkHt N sc i m y = true ∧ chkHt N sc i r (.BoolOp .And (z :: rr) pos) = true := by
      have s0 : ∃ y z rr pos, e = .BoolOp .And (y :: z :: rr) pos := by
        unfold chkHt at hc
        split at hc <;> first | contradiction | exact ⟨_, _, _, _, rfl⟩ | (rename_i h; exact absurd h (by simp))
      obtain ⟨y, z, rr, pos, rfl⟩ := s0
      simp only [chkHt, Bool.and_eq_true] at hc
      exact ⟨_, _, _, _, rfl, hc.1, hc.2⟩
    obtain ⟨y, z, rr, pos, rfl, c1, c2⟩ := sh
    unfold evHx at hd
    have g : wPW (X.suite a ((a, oe) :: pn)) (.BoolOp .And (y :: z :: rr) pos) σ H Q := by
      refine wPW_of (pw_and (pos := pos) pt_w pw_w) ?_
      cases q1 : evHx G x m with
      | none => rw [q1] at hd; cases hd
      | some d1 =>
        rw [q1] at hd
        cases d1 with
        | bool b1 =>
          refine (ht_sd cx gk hz hf m y c1 b1 q1 σ H Z st zh xr _ ?_).1
          cases b1 with
          | false => cases hd; simp only [Bool.false_eq_true, if_false]; exact ok
          | true => simp only [if_true]; exact (ht_sd cx gk hz hf r _ c2 b hd σ H Z st zh xr Q ok).2 ⟨_, _, _, rfl⟩
        | _ => cases hd
    exact ⟨fun pins s I => g _ pins s I, fun _ => g⟩
  | .or m r, e, hc, b, hd, σ, H, Z, st, zh, xr, Q, ok => by
    have sh : ∃ y z rr pos, e = .BoolOp .Or (y :: z :: rr) pos ∧ chkHt N sc i m y = true ∧ chkHt N sc i r (.BoolOp .Or (z :: rr) pos) = true := by
      have s0 : ∃ y z rr pos, e = .BoolOp .Or (y :: z :: rr) pos := by
        unfold chkHt at hc
        split at hc <;> first | contradiction | exact ⟨_, _, _, _, rfl⟩ | (rename_i h; exact absurd h (by simp))
      obtain ⟨y, z, rr, pos, rfl⟩ := s0
      simp only [chkHt, Bool.and_eq_true] at hc
      exact ⟨_, _, _, _, rfl, hc.1, hc.2⟩
    obtain ⟨y, z, rr, pos, rfl, c1, c2⟩ := sh
    unfold evHx at hd
    have g : wPW (X.suite a ((a, oe) :: pn)) (.BoolOp .Or (y :: z :: rr) pos) σ H Q := by
      refine wPW_of (pw_or (pos := pos) pt_w pw_w) ?_
      cases q1 : evHx G x m with
      | none => rw [q1] at hd; cases hd
      | some d1 =>
        rw [q1] at hd
        cases d1 with
        | bool b1 =>
          refine (ht_sd cx gk hz hf m y c1 b1 q1 σ H Z st zh xr _ ?_).1
          cases b1 with
          | true => cases hd; simp only [if_true]; exact ok
          | false => simp only [Bool.false_eq_true, if_false]; exact (ht_sd cx gk hz hf r _ c2 b hd σ H Z st zh xr Q ok).2 ⟨_, _, _, rfl⟩
        | _ => cases hd
    exact ⟨fun pins s I => g _ pins s I, fun _ => g⟩
  | .con _, e, hc, _, _, _, _, _, _, _, _, _, _ => by simp [chkHt] at hc
  | .fld _, e, hc, _, _, _, _, _, _, _, _, _, _ => by simp [chkHt] at hc
  | .nil, e, hc, _, _, _, _, _, _, _, _, _, _ => by simp [chkHt] at hc
  | .cons _ _, e, hc, _, _, _, _, _, _, _, _, _, _ => by simp [chkHt] at hc
  | .tup _, e, hc, _, _, _, _, _, _, _, _, _, _ => by simp [chkHt] at hc
/-- a suite: what it returns, or that it is left at its end -/
theorem hs_sd (cx : CxOk N sc k X) (gk : GOk G (ctOf X) k) (hz : Zc cls dd oe) (hf : ∃ vs, oe.data = .fields vs) : ∀ (m : Hs) (st : List Stmt), chkHs N sc i m st = true → ∀ r, evHs G x m = some r → ∀ (σ : Sto) (H Z : Hp), held σ a i → Same Z H → XRel (ctOf X) H Z x cls dd →
    ∀ D : Ends, (r = none → D.nx σ H) → (∀ d, r = some d → ∀ v H' Z', Grow H Z H' Z' → Dz X.K Z' v d → D.rt v H') → wS (X.suite a ((a, oe) :: pn)) st D σ H
  | .fall, st, hc, r, hr, σ, H, Z, ho, zh, xr, D, h1, h2 => by
    cases st with
    | nil => cases hr; exact wS_of pss_nil (h1 rfl)
    | cons y ys => simp [chkHs] at hc
  | .ret m, st, hc, r, hr, σ, H, Z, ho, zh, xr, D, h1, h2 => by
    have sh : ∃ e pos, st = [.Return (some e) pos] ∧ chkHx N sc i m e = true := by
      have s0 : ∃ e pos, st = [.Return (some e) pos] := by
        unfold chkHs at hc
        split at hc <;> first | contradiction | exact ⟨_, _, rfl⟩ | (rename_i h; exact absurd h (by simp))
      obtain ⟨e, pos, rfl⟩ := s0
      exact ⟨_, _, rfl, by simpa only [chkHs] using hc⟩
    obtain ⟨e, pos, rfl, c1⟩ := sh
    unfold evHs at hr
    obtain ⟨d, hd, rfl⟩ := Option.map_eq_some_iff.mp hr
    refine wS_of (pss_cons (ps_ret pe_w) pss_nil) ?_
    exact (hx_sd cx gk hz hf m).1 e c1 d hd σ H Z ho zh xr _ fun v H' Z' g z => h2 d rfl v H' Z' g z
  | .ifr c m r0, st, hc, r, hr, σ, H, Z, ho, zh, xr, D, h1, h2 => by
    have sh : ∃ t e p1 p2 rest, st = .If t [.Return (some e) p1] [] p2 :: rest ∧ chkHt N sc i c t = true ∧ chkHx N sc i m e = true ∧ chkHs N sc i r0 rest = true := by
      have s0 : ∃ t e p1 p2 rest, st = .If t [.Return (some e) p1] [] p2 :: rest := by
        unfold chkHs at hc
        split at hc <;> first | contradiction | exact ⟨_, _, _, _, _, rfl⟩ | (rename_i h; exact absurd h (by simp))
      obtain ⟨t, e, p1, p2, rest, rfl⟩ := s0
      simp only [chkHs, Bool.and_eq_true] at hc
      exact ⟨_, _, _, _, _, rfl, hc.1.1, hc.1.2, hc.2⟩
    obtain ⟨t, e, p1, p2, rest, rfl, c1, c2, c3⟩ := sh
    unfold evHs at hr
    cases q : hb (evHx G x c) with
    | none => rw [q] at hr; cases hr
    | some b =>
      rw [q] at hr
      refine wS_of (pss_cons (ps_if pt_w (pss_cons (ps_ret pe_w) pss_nil) pss_nil) pss_w) ?_
      refine (ht_sd cx gk hz hf c t c1 b (hb_some q) σ H Z ho zh xr _ ?_).1
      cases b with
      | true =>
        simp only [if_true]
        obtain ⟨d, hd, rfl⟩ := Option.map_eq_some_iff.mp hr
        exact (hx_sd cx gk hz hf m).1 e c2 d hd σ H Z ho zh xr _ fun v H' Z' g z => h2 d rfl v H' Z' g z
      | false =>
        simp only [Bool.false_eq_true, if_false]
        exact hs_sd cx gk hz hf r0 rest c3 r hr σ H Z ho zh xr D h1 h2
end
section
variable {C : Ct} {σ : Sto} {H Z H' Z' : Hp} {env : Env} {F : Nat → FS} {P : List (Nat × V)}
theorem NxS.grown (R : Rel C σ H Z env F P) (g : Grow H Z H' Z') : NxS C σ H Z env F P σ H' Z' env F :=
  ⟨R.grow g.hh g.zz g.sub fun b o h => (g.nz b o h).imp id .inl, ⟨g.zz, fun b o h _ => g.hh b o h, fun b h => .inl h, fun b o h => (g.nz b o h).imp id .inr⟩, fun j b h => .inl ⟨j, h⟩, fun _ _ => ⟨Iff.rfl, fun _ => ⟨rfl, rfl⟩⟩⟩
/-- the name of a clause is gone behind it -/
theorem NxS.off (R : Rel C σ H Z env F P) {i : Nat} (hi : i < env.length) (hF : ∀ b, ¬ F i b) (hr : ∀ t, env[i]? ≠ some (Sl.ro t)) (hP : ∀ q ∈ P, q.1 ≠ i) : NxS C σ H Z env F P (σ.set i none) H Z (setV env i .no) F := by
  have R0 : Rel C σ H Z env F [] := ⟨R.len, R.slot, R.out, R.dj, R.az, R.sub, R.al, fun q h => by cases h⟩
  have R1 := R0.unset hi hF
  have R2 : Rel C (σ.set i none) H Z (setV env i .no) F P := ⟨R1.len, R1.slot, R1.out, R1.dj, R1.az, R1.sub, R1.al, fun q h => by rw [List.getElem?_set_ne (fun e => hP q h e.symm)]; exact R.pr q h⟩
  have own : ∀ j, IsOwn (setV env i .no) j → IsOwn env j := fun j ⟨t, e⟩ => by
    rw [setV_get] at e
    by_cases h : j = i
    · rw [if_pos h, if_pos hi] at e; cases e
    · rw [if_neg h] at e
      obtain ⟨s, e1, e2⟩ := Option.map_eq_some_iff.mp e
      rw [dropAl_own] at e2
      exact ⟨t, by rw [e1, e2]⟩
  refine ⟨R2, ⟨Same.refl Z, fun b o h _ => h, fun b ⟨j, h1, h2⟩ => .inl ⟨j, own j h1, h2⟩, fun b o h => .inl h⟩, fun j b h => .inl ⟨j, h⟩, fun j t => ⟨?_, fun h => ⟨rfl, List.getElem?_set_ne fun e => hr t (by rw [e]; exact h)⟩⟩⟩
  rw [setV_get]
  by_cases h : j = i
  · subst h
    rw [if_pos rfl, if_pos hi]
    exact ⟨fun z => absurd z (hr t), fun z => by cases z⟩
  · rw [if_neg h]
    constructor
    · intro z; rw [z]; rfl
    · intro z
      obtain ⟨s, e1, e2⟩ := Option.map_eq_some_iff.mp z
      rw [dropAl_ro] at e2
      rw [e1, e2]
end
end Mp

end
section
set_option Elab.async false
set_option linter.all false
set_option maxRecDepth 100000
set_option autoImplicit false
/-! MiniPy, part Xe: raise, try are sound: the statements. -/
namespace Mp
open PySem PySem.Spec PyProof.Rows L2

theorem zip_snd {α β : Type} : ∀ {l : List α} {m : List β}, m.length = l.length → (l.zip m).map (·.2) = m
  | [], [], _ => rfl
  | [], _ :: _, h => by simp at h
  | _ :: _, [], h => by simp at h
  | a :: l, b :: m, h => by simp only [List.zip_cons_cons, List.map_cons]; rw [zip_snd (by simpa using h)]
theorem zip_fst {α β : Type} : ∀ {l : List α} {m : List β}, m.length = l.length → (l.zip m).map (·.1) = l
  | [], [], _ => rfl
  | [], _ :: _, h => by simp at h
  | _ :: _, [], h => by simp at h
  | a :: l, b :: m, h => by simp only [List.zip_cons_cons, List.map_cons]; rw [zip_fst (by simpa using h)]
section
variable {G : Gl} {hit : Str → Str → Bool}
theorem sd_raise {c : Str} {es : E} (ha : SdEs G es) : Sd1 G hit (.raise c es) := by
  intro N sc pn st hc X W k cx fx tk gk σ H Z env F P R hP nb rx D ok
  have sh : ∃ x p y ys pos pos', st = .Raise (some (.Call (.Name x p) (y :: ys) [] pos)) none pos' := by
    unfold chk1 at hc
    split at hc <;> first | contradiction | exact ⟨_, _, _, _, _, _, rfl⟩
  obtain ⟨x, p, y, ys, pos, pos', rfl⟩ := sh
  simp only [chk1, Bool.and_eq_true, decide_eq_true_eq] at hc
  obtain ⟨⟨⟨rfl, hg⟩, ce⟩, sb⟩ := hc
  obtain ⟨g1, g2, g3⟩ := globB_gl cx hg
  simp only [evS] at nb rx
  cases qf : G.exn c with
  | none => rw [qf] at nb; exact absurd rfl nb
  | some fl =>
    rw [qf] at nb rx
    simp only at nb rx
    obtain ⟨A, f, fd, ps, j, rfl, hm, T, _, _, iC, tI, hb, hps, h9, fok⟩ := gk.exn c fl qf
    have st0 := chkEs_star ce
    refine w1_of (ps_raise cx.calm tk (pmk_oex (dvs := []) (ds := []) T iC tI fok cx.room hb .nil pass0 g1 hm pa_w g2 (plS_star (st0 y List.mem_cons_self)) (stars_no fun z hz => st0 z (List.mem_cons_of_mem _ hz)))) ?_
    refine ha N sc _ ce X W (j + 1) cx tk gk σ H Z env F P R (bind_nb nb) (rx.rx fun z env' h => bind_rx h) _ fun ds env1 h1 vs H1 Z1 F1 n1 q1 d1 d2 => ?_
    rw [h1] at nb rx
    simp only [bind_ok] at nb rx
    have dz := d2 sb
    by_cases hlen : ds.length = fl.length
    case neg => rw [if_neg hlen] at nb; exact absurd rfl nb
    rw [if_pos hlen] at rx
    have lv : vs.length = fl.length := (dpAll_len dz).trans hlen
    refine ⟨by omega, fun a hna => ⟨a, vs ++ [], rfl, by rw [List.append_nil]; exact lv, upd_same, fun dx H' hdx hne k1 k2 k3 => ⟨rfl, dx, _, k1, k2, by rw [upd_ne hne] at hdx; exact hdx, ?_⟩⟩⟩
    rw [upd_ne hne] at hdx
    have eH : upd (del H' a) dx (.xd (fl.zip (vs ++ [])).reverse) = upd H1 dx (.xd (fl.zip (vs ++ [])).reverse) := by
      funext b
      by_cases e : b = dx
      · subst e; rw [upd_same, upd_same]
      · rw [upd_ne e, upd_ne e]
        by_cases e2 : b = a
        · subst e2; rw [del_same, hna]
        · rw [del_ne e2, k3 b e2 e, upd_ne e2]
    show W (.ref A) (some dx) σ (upd (del H' a) dx (.xd (fl.zip (vs ++ [])).reverse))
    rw [eH, List.append_nil]
    obtain ⟨R2, same, ap, zf⟩ := n1.rel.newA (o := .xd (fl.zip vs).reverse) hdx
    have n2 : NxS (ctOf X) σ H1 Z1 env1 F1 P σ (upd H1 dx (.xd (fl.zip vs).reverse)) Z1 env1 F1 := ⟨R2, ⟨Same.refl _, fun b o e _ => same b o e, fun b z => .inl z, fun b o z => .inl z⟩, fun j b z => .inl ⟨j, z⟩, fun _ _ => ⟨Iff.rfl, fun _ => ⟨rfl, rfl⟩⟩⟩
    refine rx _ env1 rfl σ _ Z1 F1 (.ref A) (some dx) (n1.st.trans n2) ⟨A, hm, rfl, dx, _, rfl, upd_same, ?_, ?_⟩
    · rw [List.map_reverse, List.map_reverse, zip_fst lv, zip_fst hlen]
    · rw [List.map_reverse, List.map_reverse, zip_snd lv, zip_snd hlen]
      exact dpAll_reverse dz
/-- what a suite is asked for -/
def tsOf (G : Gl) (C : Ct) (i : Option Nat) (b : Hs) : Addr → Value → Option Addr → TS := fun a cls d D σ H => ∃ (Z : Hp) (x : Exn) (r : Option PyData), Same Z H ∧ XRel C H Z x cls d ∧ held σ a i ∧ evHs G x b = some r ∧ (r = none → D.nx σ H) ∧
  ∀ d', r = some d' → ∀ v H' Z', Grow H Z H' Z' → Dz C.K Z' v d' → D.rt v H'
theorem clas_of {N : List Str} {sc : Scope} {pn : List Nat} {k : Nat} {X : Cx} (cx : CxOk N sc k X) (gk : GOk G (ctOf X) k) : ∀ (h : Hds) (hl : List ExceptHandler), chkHds N sc pn h hl = true → hdsOk G h = true →
    ∃ l, Clas X hl l ∧ ∀ (Wo : WX) (D : Ends) (σ : Sto) (H Z : Hp) (env : Env) (F : Nat → FS) (P : List (Nat × V)) (x : Exn) (cls : Value) (dd : Option Addr), Rel (ctOf X) σ H Z env F P → (∀ q ∈ P, q.1 ∈ pn) → XRel (ctOf X) H Z x cls dd → runH G x h env ≠ .bad →
      EndsOk (ctOf X) σ H Z env F P D (runH G x h env) → RxS (ctOf X) Wo σ H Z env F P (runH G x h env) → wTry X.K Wo D l cls dd σ H
  | .nil, hl, hc, ok => by
    cases hl with
    | cons _ _ => simp [chkHds] at hc
    | nil => exact ⟨[], .nil, fun Wo D σ H Z env F P x cls dd R hP xr nb ends rx => rx x env rfl σ H Z F cls dd (NxS.refl R) xr⟩
  | .cons c i b r, hl, hc, ok => by
    have sh : ∃ y p nm s0 su p2 hl2, hl = .ExceptHandler (some (.Name y p)) nm (s0 :: su) p2 :: hl2 ∧ y = c ∧ globB sc y = true ∧ nmB N sc pn i nm = true ∧ chkHs N sc i b (s0 :: su) = true ∧ chkHds N sc pn r hl2 = true := by
      have s0 : ∃ y p nm s0 su p2 hl2, hl = .ExceptHandler (some (.Name y p)) nm (s0 :: su) p2 :: hl2 := by
        unfold chkHds at hc
        split at hc <;> first | contradiction | exact ⟨_, _, _, _, _, _, _, rfl⟩ | (rename_i h; exact absurd h (by simp))
      obtain ⟨y, p, nm, st0, su, p2, hl2, rfl⟩ := s0
      simp only [chkHds, Bool.and_eq_true, decide_eq_true_eq] at hc
      exact ⟨_, _, _, _, _, _, _, rfl, hc.1.1.1.1, hc.1.1.1.2, hc.1.1.2, hc.1.2, hc.2⟩
    obtain ⟨y, p, nm, s0, su, p2, hl2, rfl, rfl, hg, hn, hs, hr⟩ := sh
    simp only [hdsOk, Bool.and_eq_true] at ok
    obtain ⟨fl, qf⟩ := Option.isSome_iff_exists.mp ok.1
    obtain ⟨A, f, fd, ps, j, rfl, hm, _⟩ := gk.exn y fl qf
    obtain ⟨g1, g2, g3⟩ := globB_gl cx hg
    obtain ⟨l, cl, sem⟩ := clas_of cx gk r hl2 hr ok.2
    have nok : nmOk X nm i := by
      cases i with
      | none => cases nm with
        | none => trivial
        | some n => simp [nmB] at hn
      | some i => cases nm with
        | none => simp [nmB] at hn
        | some n =>
          simp only [nmB, Bool.and_eq_true, decide_eq_true_eq] at hn
          exact ⟨by rw [cx.nm]; exact hn.1.1, by show X.env.scope.names.lookup n = _; rw [cx.sc]; exact hn.1.2⟩
    have ipn : ∀ j, i = some j → j ∉ pn := fun j e => by
      subst e
      cases nm with
      | none => simp [nmB] at hn
      | some n =>
        simp only [nmB, Bool.and_eq_true, Bool.not_eq_true'] at hn
        intro m
        rw [List.contains_iff_mem.mpr m] at hn
        cases hn.2
    refine ⟨(.ref A, i, tsOf G (ctOf X) i b) :: l, .cons ⟨g1, g2, .inl hm⟩ nok (fun a oe cls d pn' hz hf => ⟨fun pins s σ H D I ⟨Z, x, r0, zh, xr, ho, ev, e1, e2⟩ => ?_⟩) cl, fun Wo D σ H Z env F P x cls dd R hP xr nb ends rx => ?_⟩
    · exact pss_w.run pins s σ H D I (hs_sd cx gk hz hf b (s0 :: su) hs r0 ev σ H Z ho zh xr D e1 e2)
    · unfold runH at nb ends rx
      cases qh : G.hit x.c y with
      | none => rw [qh] at nb; exact absurd rfl nb
      | some bb =>
        rw [qh] at nb ends rx
        obtain ⟨A1, v, cv, m1, rv, uq, m2, k1, k2, _⟩ := gk.hit _ _ _ qh
        have ecv : cv = .ref A := by
          rcases m2 with m | ⟨m, _⟩
          · rw [hm] at m; cases m; rfl
          · rw [hm] at m; cases m
        subst ecv
        have ecl : cls = .ref A1 := by
          obtain ⟨A2, m3, e3, _⟩ := xr
          rw [e3, exmg_uniq m1 m3]
        refine ⟨bb, by rw [ecl]; exact k2, fun e => ?_, fun e => ?_⟩
        · subst e
          simp only at nb ends rx
          intro a na
          cases qo : offE i env with
          | none => rw [qo] at nb; exact absurd rfl nb
          | some env' =>
            rw [qo] at nb ends rx
            cases qe : evHs G x b with
            | none => rw [qe] at nb; exact absurd rfl nb
            | some r0 =>
              rw [qe] at nb ends rx
              -- the name's place
              have place : held (ons σ a i) a i ∧ ∃ σ', (∀ h : Nat → Sto → Prop, True) ∧ (∀ {H' Z' : Hp}, Rel (ctOf X) σ H' Z' env F P → NxS (ctOf X) σ H' Z' env F P σ' H' Z' env' F) ∧ ((offs D i).nx (ons σ a i) = D.nx σ') ∧ (offs D i).rt = D.rt := by
                cases i with
                | none => cases qo; exact ⟨trivial, σ, fun _ => trivial, fun R => NxS.refl R, rfl, rfl⟩
                | some i =>
                  have key : i < env.length ∧ (∀ b, ¬ F i b) ∧ (∀ t, env[i]? ≠ some (Sl.ro t)) ∧ env' = setV env i .no := by
                    simp only [offE] at qo
                    cases qi : env[i]? with
                    | none => rw [qi] at qo; cases qo
                    | some sl =>
                      rw [qi] at qo
                      have hi := (List.getElem?_eq_some_iff.mp qi).1
                      obtain ⟨xx, _, so⟩ := R.slot i sl qi
                      cases sl with
                      | no => cases qo; exact ⟨hi, so, (fun t z => by cases z), rfl⟩
                      | own t =>
                        cases t with
                        | fz d0 =>
                          cases qo
                          obtain ⟨w, _, o⟩ := so
                          refine ⟨hi, ?_, (fun t z => by cases z), rfl⟩
                          cases o with
                          | fz _ q => exact q
                        | _ => cases qo
                      | _ => cases qo
                  obtain ⟨hi, hF, hro, rfl⟩ := key
                  have hl : i < σ.length := by rw [R.len]; exact hi
                  refine ⟨List.getElem?_set_self hl, σ.set i none, fun _ => trivial, fun R => NxS.off R hi hF hro fun q hq e => ipn i rfl (e ▸ hP q hq), ?_, rfl⟩
                  funext H'
                  show D.nx ((σ.set i (some (.ref a))).set i none) H' = _
                  rw [List.set_set]
              obtain ⟨p1, σ', _, p2, p3, p4⟩ := place
              refine ⟨Z, x, r0, R.sub, xr, p1, qe, fun e => ?_, fun d' e v H' Z' g z => ?_⟩
              · subst e
                rw [p3]
                exact ends.1 env' rfl σ' H Z F (p2 R)
              · subst e
                rw [p4]
                have n1 := NxS.grown R g
                have n2 := n1.trans (p2 n1.rel)
                refine ends.2.2.2 (.fz d') env' rfl v σ' H' Z' F (fun _ => False) ⟨n2, fun _ x => x.elim, fun _ _ x => x.elim, fun _ x => x.elim, n2.stp.mono (fun _ x => x) fun b x => x.elim .inl False.elim⟩ (.fz z fun _ x => x)
        · subst e
          exact sem Wo D σ H Z env F P x cls dd R hP xr nb ends rx
theorem sd_tryx {b : S} {h : Hds} (hb : SdS G hit b) : Sd1 G hit (.tryx b h) := by
  intro N sc pn st hc X W k cx fx tk gk σ H Z env F P R hP nb rx D ok
  have sh : ∃ body hl pos, st = .Try body hl [] [] pos := by
    unfold chk1 at hc
    split at hc <;> first | contradiction | exact ⟨_, _, _, rfl⟩
  obtain ⟨body, hl, pos, rfl⟩ := sh
  simp only [chk1, Bool.and_eq_true] at hc
  obtain ⟨⟨cb, ch⟩, ci⟩ := hc
  simp only [evS] at nb rx ok
  by_cases hk : hdsOk G h = false
  · rw [if_pos hk] at nb; exact absurd rfl nb
  rw [if_neg hk] at nb rx ok
  rw [Bool.not_eq_false] at hk
  obtain ⟨l, cl, sem⟩ := clas_of cx gk h hl ch hk
  cases hl with
  | nil => cases h <;> simp [chkHds, isHd] at ch ci
  | cons h0 hr =>
    let tb : WX → TS := fun W D σ H => ∃ Z env F P, Rel (ctOf X) σ H Z env F P ∧ (∀ q ∈ P, q.1 ∈ pn) ∧ evS G hit b env ≠ .bad ∧ RxS (ctOf X) W σ H Z env F P (evS G hit b env) ∧ EndsOk (ctOf X) σ H Z env F P D (evS G hit b env)
    have nb1 : evS G hit b env ≠ .bad := fun e => by rw [e] at nb; exact nb rfl
    refine w1_of (ps_tryN (tb := tb) fx.2.1 fx.2.2 (by rw [cx.nm]; exact cx.nd) tk (fun W' pn' xe tk' own => ⟨fun pins s σ H D I ⟨Z, env, F, P, R, hP, nb, rx, ok⟩ => ?_⟩) cl) ⟨Z, env, F, P, R, hP, nb1, ?_, ?_⟩
    · have cx' : CxOk N sc k (X.tr pn' xe) := ⟨cx.nm, cx.sc, cx.nd, cx.calm, cx.room, cx.guards, own⟩
      exact pss_w.run pins s σ H D I (hb N sc pn body cb (X.tr pn' xe) W' k cx' ⟨fx.1, fx.2.1, fx.2.2⟩ tk' gk σ H Z env F P R hP nb rx D ok)
    · intro x env' e σ' H' Z' F' cls dd n xr
      rw [e] at nb rx ok
      exact sem W D σ' H' Z' env' F' P x cls dd n.rel hP xr nb (ok.next n) (rx.next n fun z e' h => h)
    · cases e : evS G hit b env with
      | bad => exact absurd e nb1
      | ok f env1 => rw [e] at ok; exact ok
      | raise x env1 => exact ⟨(fun _ z => nomatch z), (fun _ z => nomatch z), (fun _ z => nomatch z), (fun _ _ z => nomatch z)⟩
end
end Mp

end
section
set_option Elab.async false
set_option linter.all false
set_option maxRecDepth 100000
set_option autoImplicit false
/-! MiniPy, part Y: all of it is sound (printed by gen_all.py). -/
namespace Mp
open PySem PySem.Spec PyProof.Rows L2

structure All (G : Gl) (m : E) : Prop where
  e : SdE G m
  pt : SdPt G m
  es : SdEs G m
  t : SdT G m
  l : SdL G m
  i : SdI G m
  o : SdO G m
  os : SdOs G m
  a : SdA G m
  a1 : SdA1 G m
theorem all_sd (G : Gl) : ∀ m : E, All G m
  | .nil => ⟨(fun N sc e hc => absurd (show false = true from hc) Bool.false_ne_true),
    (fun N sc e hc => absurd (show false = true from hc) Bool.false_ne_true),
    (sd_nil),
    (fun N sc e hc => absurd (show false = true from hc) Bool.false_ne_true),
    (fun N sc e hc => absurd (show false = true from hc) Bool.false_ne_true),
    (fun N sc e hc => absurd (show false = true from hc) Bool.false_ne_true),
    (fun N sc e hc => absurd (show false = true from hc) Bool.false_ne_true),
    (sd_nilO),
    (sd_nilA),
    (fun N sc e hc => absurd (show false = true from hc) Bool.false_ne_true)⟩
  | .cons a r => ⟨(fun N sc e hc => absurd (show false = true from hc) Bool.false_ne_true),
    (fun N sc e hc => absurd (show false = true from hc) Bool.false_ne_true),
    (sd_cons (all_sd G a).e (all_sd G r).es),
    (fun N sc e hc => absurd (show false = true from hc) Bool.false_ne_true),
    (fun N sc e hc => absurd (show false = true from hc) Bool.false_ne_true),
    (fun N sc e hc => absurd (show false = true from hc) Bool.false_ne_true),
    (fun N sc e hc => absurd (show false = true from hc) Bool.false_ne_true),
    (sd_consO (all_sd G a).o (all_sd G r).os),
    (sd_consA (all_sd G a).a1 (all_sd G r).a),
    (fun N sc e hc => absurd (show false = true from hc) Bool.false_ne_true)⟩
  | .con d => ⟨(sd_con d),
    (fun N sc e hc => absurd (show false = true from hc) Bool.false_ne_true),
    (fun N sc e hc => absurd (show false = true from hc) Bool.false_ne_true),
    (fun N sc e hc => absurd (show false = true from hc) Bool.false_ne_true),
    (fun N sc e hc => absurd (show false = true from hc) Bool.false_ne_true),
    (fun N sc e hc => absurd (show false = true from hc) Bool.false_ne_true),
    (fun N sc e hc => absurd (show false = true from hc) Bool.false_ne_true),
    (fun N sc e hc => absurd (show false = true from hc) Bool.false_ne_true),
    (fun N sc e hc => absurd (show false = true from hc) Bool.false_ne_true),
    (fun N sc e hc => absurd (show false = true from hc) Bool.false_ne_true)⟩
  | .glob x => ⟨(sd_glob x),
    (fun N sc e hc => absurd (show false = true from hc) Bool.false_ne_true),
    (fun N sc e hc => absurd (show false = true from hc) Bool.false_ne_true),
    (fun N sc e hc => absurd (show false = true from hc) Bool.false_ne_true),
    (fun N sc e hc => absurd (show false = true from hc) Bool.false_ne_true),
    (fun N sc e hc => absurd (show false = true from hc) Bool.false_ne_true),
    (fun N sc e hc => absurd (show false = true from hc) Bool.false_ne_true),
    (fun N sc e hc => absurd (show false = true from hc) Bool.false_ne_true),
    (fun N sc e hc => absurd (show false = true from hc) Bool.false_ne_true),
    (fun N sc e hc => absurd (show false = true from hc) Bool.false_ne_true)⟩
  | .rd l => ⟨(sd_rd (all_sd G l).l),
    (fun N sc e hc => absurd (show false = true from hc) Bool.false_ne_true),
    (fun N sc e hc => absurd (show false = true from hc) Bool.false_ne_true),
    (fun N sc e hc => absurd (show false = true from hc) Bool.false_ne_true),
    (fun N sc e hc => absurd (show false = true from hc) Bool.false_ne_true),
    (fun N sc e hc => absurd (show false = true from hc) Bool.false_ne_true),
    (fun N sc e hc => absurd (show false = true from hc) Bool.false_ne_true),
    (fun N sc e hc => absurd (show false = true from hc) Bool.false_ne_true),
    (fun N sc e hc => absurd (show false = true from hc) Bool.false_ne_true),
    (fun N sc e hc => absurd (show false = true from hc) Bool.false_ne_true)⟩
  | .pk l => ⟨(sd_pk (all_sd G l).l),
    (fun N sc e hc => absurd (show false = true from hc) Bool.false_ne_true),
    (fun N sc e hc => absurd (show false = true from hc) Bool.false_ne_true),
    (fun N sc e hc => absurd (show false = true from hc) Bool.false_ne_true),
    (fun N sc e hc => absurd (show false = true from hc) Bool.false_ne_true),
    (fun N sc e hc => absurd (show false = true from hc) Bool.false_ne_true),
    (fun N sc e hc => absurd (show false = true from hc) Bool.false_ne_true),
    (fun N sc e hc => absurd (show false = true from hc) Bool.false_ne_true),
    (fun N sc e hc => absurd (show false = true from hc) Bool.false_ne_true),
    (fun N sc e hc => absurd (show false = true from hc) Bool.false_ne_true)⟩
  | .fz i => ⟨(sd_fz i),
    (fun N sc e hc => absurd (show false = true from hc) Bool.false_ne_true),
    (fun N sc e hc => absurd (show false = true from hc) Bool.false_ne_true),
    (fun N sc e hc => absurd (show false = true from hc) Bool.false_ne_true),
    (fun N sc e hc => absurd (show false = true from hc) Bool.false_ne_true),
    (fun N sc e hc => absurd (show false = true from hc) Bool.false_ne_true),
    (fun N sc e hc => absurd (show false = true from hc) Bool.false_ne_true),
    (fun N sc e hc => absurd (show false = true from hc) Bool.false_ne_true),
    (fun N sc e hc => absurd (show false = true from hc) Bool.false_ne_true),
    (fun N sc e hc => absurd (show false = true from hc) Bool.false_ne_true)⟩
  | .neg a => ⟨(sd_neg (all_sd G a).e),
    (fun N sc e hc => absurd (show false = true from hc) Bool.false_ne_true),
    (fun N sc e hc => absurd (show false = true from hc) Bool.false_ne_true),
    (fun N sc e hc => absurd (show false = true from hc) Bool.false_ne_true),
    (fun N sc e hc => absurd (show false = true from hc) Bool.false_ne_true),
    (fun N sc e hc => absurd (show false = true from hc) Bool.false_ne_true),
    (fun N sc e hc => absurd (show false = true from hc) Bool.false_ne_true),
    (fun N sc e hc => absurd (show false = true from hc) Bool.false_ne_true),
    (fun N sc e hc => absurd (show false = true from hc) Bool.false_ne_true),
    (fun N sc e hc => absurd (show false = true from hc) Bool.false_ne_true)⟩
  | .tup es => ⟨(sd_tup (all_sd G es).es),
    (fun N sc e hc => absurd (show false = true from hc) Bool.false_ne_true),
    (fun N sc e hc => absurd (show false = true from hc) Bool.false_ne_true),
    (fun N sc e hc => absurd (show false = true from hc) Bool.false_ne_true),
    (fun N sc e hc => absurd (show false = true from hc) Bool.false_ne_true),
    (fun N sc e hc => absurd (show false = true from hc) Bool.false_ne_true),
    (fun N sc e hc => absurd (show false = true from hc) Bool.false_ne_true),
    (fun N sc e hc => absurd (show false = true from hc) Bool.false_ne_true),
    (fun N sc e hc => absurd (show false = true from hc) Bool.false_ne_true),
    (fun N sc e hc => absurd (show false = true from hc) Bool.false_ne_true)⟩
  | .lst es => ⟨(sd_lst (all_sd G es).es),
    (fun N sc e hc => absurd (show false = true from hc) Bool.false_ne_true),
    (fun N sc e hc => absurd (show false = true from hc) Bool.false_ne_true),
    (fun N sc e hc => absurd (show false = true from hc) Bool.false_ne_true),
    (fun N sc e hc => absurd (show false = true from hc) Bool.false_ne_true),
    (fun N sc e hc => absurd (show false = true from hc) Bool.false_ne_true),
    (fun N sc e hc => absurd (show false = true from hc) Bool.false_ne_true),
    (fun N sc e hc => absurd (show false = true from hc) Bool.false_ne_true),
    (fun N sc e hc => absurd (show false = true from hc) Bool.false_ne_true),
    (fun N sc e hc => absurd (show false = true from hc) Bool.false_ne_true)⟩
  | .bin o a b => ⟨(sd_bin (all_sd G a).e (all_sd G b).e),
    (fun N sc e hc => absurd (show false = true from hc) Bool.false_ne_true),
    (fun N sc e hc => absurd (show false = true from hc) Bool.false_ne_true),
    (fun N sc e hc => absurd (show false = true from hc) Bool.false_ne_true),
    (fun N sc e hc => absurd (show false = true from hc) Bool.false_ne_true),
    (fun N sc e hc => absurd (show false = true from hc) Bool.false_ne_true),
    (fun N sc e hc => absurd (show false = true from hc) Bool.false_ne_true),
    (fun N sc e hc => absurd (show false = true from hc) Bool.false_ne_true),
    (fun N sc e hc => absurd (show false = true from hc) Bool.false_ne_true),
    (fun N sc e hc => absurd (show false = true from hc) Bool.false_ne_true)⟩
  | .cmp o a b => ⟨(sd_cmp (all_sd G a).e (all_sd G b).e),
    (fun N sc e hc => absurd (show false = true from hc) Bool.false_ne_true),
    (fun N sc e hc => absurd (show false = true from hc) Bool.false_ne_true),
    (sd_cmpT (all_sd G a).e (all_sd G b).e),
    (fun N sc e hc => absurd (show false = true from hc) Bool.false_ne_true),
    (fun N sc e hc => absurd (show false = true from hc) Bool.false_ne_true),
    (fun N sc e hc => absurd (show false = true from hc) Bool.false_ne_true),
    (fun N sc e hc => absurd (show false = true from hc) Bool.false_ne_true),
    (fun N sc e hc => absurd (show false = true from hc) Bool.false_ne_true),
    (fun N sc e hc => absurd (show false = true from hc) Bool.false_ne_true)⟩
  | .chain o o' a b c => ⟨(sd_chain (all_sd G a).e (all_sd G b).e (all_sd G c).e),
    (fun N sc e hc => absurd (show false = true from hc) Bool.false_ne_true),
    (fun N sc e hc => absurd (show false = true from hc) Bool.false_ne_true),
    (sd_chainT (all_sd G a).e (all_sd G b).e (all_sd G c).e),
    (fun N sc e hc => absurd (show false = true from hc) Bool.false_ne_true),
    (fun N sc e hc => absurd (show false = true from hc) Bool.false_ne_true),
    (fun N sc e hc => absurd (show false = true from hc) Bool.false_ne_true),
    (fun N sc e hc => absurd (show false = true from hc) Bool.false_ne_true),
    (fun N sc e hc => absurd (show false = true from hc) Bool.false_ne_true),
    (fun N sc e hc => absurd (show false = true from hc) Bool.false_ne_true)⟩
  | .and a b => ⟨(sd_andE (all_sd G a).e (all_sd G b).e),
    (fun N sc e hc => absurd (show false = true from hc) Bool.false_ne_true),
    (fun N sc e hc => absurd (show false = true from hc) Bool.false_ne_true),
    (sd_andT (all_sd G a).t (all_sd G b).t),
    (fun N sc e hc => absurd (show false = true from hc) Bool.false_ne_true),
    (fun N sc e hc => absurd (show false = true from hc) Bool.false_ne_true),
    (fun N sc e hc => absurd (show false = true from hc) Bool.false_ne_true),
    (fun N sc e hc => absurd (show false = true from hc) Bool.false_ne_true),
    (fun N sc e hc => absurd (show false = true from hc) Bool.false_ne_true),
    (fun N sc e hc => absurd (show false = true from hc) Bool.false_ne_true)⟩
  | .or a b => ⟨(sd_orE (all_sd G a).e (all_sd G b).e),
    (fun N sc e hc => absurd (show false = true from hc) Bool.false_ne_true),
    (fun N sc e hc => absurd (show false = true from hc) Bool.false_ne_true),
    (sd_orT (all_sd G a).t (all_sd G b).t),
    (fun N sc e hc => absurd (show false = true from hc) Bool.false_ne_true),
    (fun N sc e hc => absurd (show false = true from hc) Bool.false_ne_true),
    (fun N sc e hc => absurd (show false = true from hc) Bool.false_ne_true),
    (fun N sc e hc => absurd (show false = true from hc) Bool.false_ne_true),
    (fun N sc e hc => absurd (show false = true from hc) Bool.false_ne_true),
    (fun N sc e hc => absurd (show false = true from hc) Bool.false_ne_true)⟩
  | .not a => ⟨(sd_not (all_sd G a).e),
    (fun N sc e hc => absurd (show false = true from hc) Bool.false_ne_true),
    (fun N sc e hc => absurd (show false = true from hc) Bool.false_ne_true),
    (sd_notT (all_sd G a).t),
    (fun N sc e hc => absurd (show false = true from hc) Bool.false_ne_true),
    (fun N sc e hc => absurd (show false = true from hc) Bool.false_ne_true),
    (fun N sc e hc => absurd (show false = true from hc) Bool.false_ne_true),
    (fun N sc e hc => absurd (show false = true from hc) Bool.false_ne_true),
    (fun N sc e hc => absurd (show false = true from hc) Bool.false_ne_true),
    (fun N sc e hc => absurd (show false = true from hc) Bool.false_ne_true)⟩
  | .ife c a b => ⟨(sd_ife (all_sd G c).t (all_sd G a).e (all_sd G b).e),
    (fun N sc e hc => absurd (show false = true from hc) Bool.false_ne_true),
    (fun N sc e hc => absurd (show false = true from hc) Bool.false_ne_true),
    (fun N sc e hc => absurd (show false = true from hc) Bool.false_ne_true),
    (fun N sc e hc => absurd (show false = true from hc) Bool.false_ne_true),
    (fun N sc e hc => absurd (show false = true from hc) Bool.false_ne_true),
    (fun N sc e hc => absurd (show false = true from hc) Bool.false_ne_true),
    (fun N sc e hc => absurd (show false = true from hc) Bool.false_ne_true),
    (fun N sc e hc => absurd (show false = true from hc) Bool.false_ne_true),
    (fun N sc e hc => absurd (show false = true from hc) Bool.false_ne_true)⟩
  | .ix a b => ⟨(sd_ix (all_sd G a).e (all_sd G b).e),
    (fun N sc e hc => absurd (show false = true from hc) Bool.false_ne_true),
    (fun N sc e hc => absurd (show false = true from hc) Bool.false_ne_true),
    (fun N sc e hc => absurd (show false = true from hc) Bool.false_ne_true),
    (fun N sc e hc => absurd (show false = true from hc) Bool.false_ne_true),
    (fun N sc e hc => absurd (show false = true from hc) Bool.false_ne_true),
    (fun N sc e hc => absurd (show false = true from hc) Bool.false_ne_true),
    (fun N sc e hc => absurd (show false = true from hc) Bool.false_ne_true),
    (fun N sc e hc => absurd (show false = true from hc) Bool.false_ne_true),
    (fun N sc e hc => absurd (show false = true from hc) Bool.false_ne_true)⟩
  | .sl a lo hi => ⟨(sd_sl (all_sd G a).e (all_sd G lo).pt (all_sd G hi).pt),
    (fun N sc e hc => absurd (show false = true from hc) Bool.false_ne_true),
    (fun N sc e hc => absurd (show false = true from hc) Bool.false_ne_true),
    (fun N sc e hc => absurd (show false = true from hc) Bool.false_ne_true),
    (fun N sc e hc => absurd (show false = true from hc) Bool.false_ne_true),
    (fun N sc e hc => absurd (show false = true from hc) Bool.false_ne_true),
    (fun N sc e hc => absurd (show false = true from hc) Bool.false_ne_true),
    (fun N sc e hc => absurd (show false = true from hc) Bool.false_ne_true),
    (fun N sc e hc => absurd (show false = true from hc) Bool.false_ne_true),
    (fun N sc e hc => absurd (show false = true from hc) Bool.false_ne_true)⟩
  | .noPart => ⟨(fun N sc e hc => absurd (show false = true from hc) Bool.false_ne_true),
    (sd_noPart),
    (fun N sc e hc => absurd (show false = true from hc) Bool.false_ne_true),
    (fun N sc e hc => absurd (show false = true from hc) Bool.false_ne_true),
    (fun N sc e hc => absurd (show false = true from hc) Bool.false_ne_true),
    (fun N sc e hc => absurd (show false = true from hc) Bool.false_ne_true),
    (fun N sc e hc => absurd (show false = true from hc) Bool.false_ne_true),
    (fun N sc e hc => absurd (show false = true from hc) Bool.false_ne_true),
    (fun N sc e hc => absurd (show false = true from hc) Bool.false_ne_true),
    (fun N sc e hc => absurd (show false = true from hc) Bool.false_ne_true)⟩
  | .part e => ⟨(fun N sc e hc => absurd (show false = true from hc) Bool.false_ne_true),
    (sd_part (all_sd G e).e),
    (fun N sc e hc => absurd (show false = true from hc) Bool.false_ne_true),
    (fun N sc e hc => absurd (show false = true from hc) Bool.false_ne_true),
    (fun N sc e hc => absurd (show false = true from hc) Bool.false_ne_true),
    (fun N sc e hc => absurd (show false = true from hc) Bool.false_ne_true),
    (fun N sc e hc => absurd (show false = true from hc) Bool.false_ne_true),
    (fun N sc e hc => absurd (show false = true from hc) Bool.false_ne_true),
    (fun N sc e hc => absurd (show false = true from hc) Bool.false_ne_true),
    (fun N sc e hc => absurd (show false = true from hc) Bool.false_ne_true)⟩
  | .rev a => ⟨(sd_rev (all_sd G a).e),
    (fun N sc e hc => absurd (show false = true from hc) Bool.false_ne_true),
    (fun N sc e hc => absurd (show false = true from hc) Bool.false_ne_true),
    (fun N sc e hc => absurd (show false = true from hc) Bool.false_ne_true),
    (fun N sc e hc => absurd (show false = true from hc) Bool.false_ne_true),
    (fun N sc e hc => absurd (show false = true from hc) Bool.false_ne_true),
    (fun N sc e hc => absurd (show false = true from hc) Bool.false_ne_true),
    (fun N sc e hc => absurd (show false = true from hc) Bool.false_ne_true),
    (fun N sc e hc => absurd (show false = true from hc) Bool.false_ne_true),
    (fun N sc e hc => absurd (show false = true from hc) Bool.false_ne_true)⟩
  | .tru e => ⟨(fun N sc e hc => absurd (show false = true from hc) Bool.false_ne_true),
    (fun N sc e hc => absurd (show false = true from hc) Bool.false_ne_true),
    (fun N sc e hc => absurd (show false = true from hc) Bool.false_ne_true),
    (sd_tru (all_sd G e).e),
    (fun N sc e hc => absurd (show false = true from hc) Bool.false_ne_true),
    (fun N sc e hc => absurd (show false = true from hc) Bool.false_ne_true),
    (fun N sc e hc => absurd (show false = true from hc) Bool.false_ne_true),
    (fun N sc e hc => absurd (show false = true from hc) Bool.false_ne_true),
    (fun N sc e hc => absurd (show false = true from hc) Bool.false_ne_true),
    (fun N sc e hc => absurd (show false = true from hc) Bool.false_ne_true)⟩
  | .itv e => ⟨(fun N sc e hc => absurd (show false = true from hc) Bool.false_ne_true),
    (fun N sc e hc => absurd (show false = true from hc) Bool.false_ne_true),
    (fun N sc e hc => absurd (show false = true from hc) Bool.false_ne_true),
    (fun N sc e hc => absurd (show false = true from hc) Bool.false_ne_true),
    (fun N sc e hc => absurd (show false = true from hc) Bool.false_ne_true),
    (sd_itv (all_sd G e).e),
    (fun N sc e hc => absurd (show false = true from hc) Bool.false_ne_true),
    (fun N sc e hc => absurd (show false = true from hc) Bool.false_ne_true),
    (fun N sc e hc => absurd (show false = true from hc) Bool.false_ne_true),
    (fun N sc e hc => absurd (show false = true from hc) Bool.false_ne_true)⟩
  | .one e => ⟨(sd_oneE (all_sd G e).e),
    (fun N sc e hc => absurd (show false = true from hc) Bool.false_ne_true),
    (fun N sc e hc => absurd (show false = true from hc) Bool.false_ne_true),
    (sd_oneT (all_sd G e).t),
    (fun N sc e hc => absurd (show false = true from hc) Bool.false_ne_true),
    (fun N sc e hc => absurd (show false = true from hc) Bool.false_ne_true),
    (fun N sc e hc => absurd (show false = true from hc) Bool.false_ne_true),
    (fun N sc e hc => absurd (show false = true from hc) Bool.false_ne_true),
    (fun N sc e hc => absurd (show false = true from hc) Bool.false_ne_true),
    (fun N sc e hc => absurd (show false = true from hc) Bool.false_ne_true)⟩
  | .bi f es => ⟨(sd_bi (all_sd G es).es),
    (fun N sc e hc => absurd (show false = true from hc) Bool.false_ne_true),
    (fun N sc e hc => absurd (show false = true from hc) Bool.false_ne_true),
    (fun N sc e hc => absurd (show false = true from hc) Bool.false_ne_true),
    (fun N sc e hc => absurd (show false = true from hc) Bool.false_ne_true),
    (fun N sc e hc => absurd (show false = true from hc) Bool.false_ne_true),
    (fun N sc e hc => absurd (show false = true from hc) Bool.false_ne_true),
    (fun N sc e hc => absurd (show false = true from hc) Bool.false_ne_true),
    (fun N sc e hc => absurd (show false = true from hc) Bool.false_ne_true),
    (fun N sc e hc => absurd (show false = true from hc) Bool.false_ne_true)⟩
  | .mt0 m a => ⟨(sd_mt0 (all_sd G a).e),
    (fun N sc e hc => absurd (show false = true from hc) Bool.false_ne_true),
    (fun N sc e hc => absurd (show false = true from hc) Bool.false_ne_true),
    (fun N sc e hc => absurd (show false = true from hc) Bool.false_ne_true),
    (fun N sc e hc => absurd (show false = true from hc) Bool.false_ne_true),
    (fun N sc e hc => absurd (show false = true from hc) Bool.false_ne_true),
    (fun N sc e hc => absurd (show false = true from hc) Bool.false_ne_true),
    (fun N sc e hc => absurd (show false = true from hc) Bool.false_ne_true),
    (fun N sc e hc => absurd (show false = true from hc) Bool.false_ne_true),
    (fun N sc e hc => absurd (show false = true from hc) Bool.false_ne_true)⟩
  | .mt1 m a b => ⟨(sd_mt1 (all_sd G a).e (all_sd G b).e),
    (fun N sc e hc => absurd (show false = true from hc) Bool.false_ne_true),
    (fun N sc e hc => absurd (show false = true from hc) Bool.false_ne_true),
    (fun N sc e hc => absurd (show false = true from hc) Bool.false_ne_true),
    (fun N sc e hc => absurd (show false = true from hc) Bool.false_ne_true),
    (fun N sc e hc => absurd (show false = true from hc) Bool.false_ne_true),
    (fun N sc e hc => absurd (show false = true from hc) Bool.false_ne_true),
    (fun N sc e hc => absurd (show false = true from hc) Bool.false_ne_true),
    (fun N sc e hc => absurd (show false = true from hc) Bool.false_ne_true),
    (fun N sc e hc => absurd (show false = true from hc) Bool.false_ne_true)⟩
  | .ofr o => ⟨(sd_ofr (all_sd G o).o),
    (fun N sc e hc => absurd (show false = true from hc) Bool.false_ne_true),
    (fun N sc e hc => absurd (show false = true from hc) Bool.false_ne_true),
    (fun N sc e hc => absurd (show false = true from hc) Bool.false_ne_true),
    (fun N sc e hc => absurd (show false = true from hc) Bool.false_ne_true),
    (fun N sc e hc => absurd (show false = true from hc) Bool.false_ne_true),
    (fun N sc e hc => absurd (show false = true from hc) Bool.false_ne_true),
    (fun N sc e hc => absurd (show false = true from hc) Bool.false_ne_true),
    (fun N sc e hc => absurd (show false = true from hc) Bool.false_ne_true),
    (fun N sc e hc => absurd (show false = true from hc) Bool.false_ne_true)⟩
  | .app l e => ⟨(sd_app (all_sd G l).l (all_sd G e).e),
    (fun N sc e hc => absurd (show false = true from hc) Bool.false_ne_true),
    (fun N sc e hc => absurd (show false = true from hc) Bool.false_ne_true),
    (fun N sc e hc => absurd (show false = true from hc) Bool.false_ne_true),
    (fun N sc e hc => absurd (show false = true from hc) Bool.false_ne_true),
    (fun N sc e hc => absurd (show false = true from hc) Bool.false_ne_true),
    (fun N sc e hc => absurd (show false = true from hc) Bool.false_ne_true),
    (fun N sc e hc => absurd (show false = true from hc) Bool.false_ne_true),
    (fun N sc e hc => absurd (show false = true from hc) Bool.false_ne_true),
    (fun N sc e hc => absurd (show false = true from hc) Bool.false_ne_true)⟩
  | .ext l e => ⟨(sd_ext (all_sd G l).l (all_sd G e).e),
    (fun N sc e hc => absurd (show false = true from hc) Bool.false_ne_true),
    (fun N sc e hc => absurd (show false = true from hc) Bool.false_ne_true),
    (fun N sc e hc => absurd (show false = true from hc) Bool.false_ne_true),
    (fun N sc e hc => absurd (show false = true from hc) Bool.false_ne_true),
    (fun N sc e hc => absurd (show false = true from hc) Bool.false_ne_true),
    (fun N sc e hc => absurd (show false = true from hc) Bool.false_ne_true),
    (fun N sc e hc => absurd (show false = true from hc) Bool.false_ne_true),
    (fun N sc e hc => absurd (show false = true from hc) Bool.false_ne_true),
    (fun N sc e hc => absurd (show false = true from hc) Bool.false_ne_true)⟩
  | .revL l => ⟨(sd_revL (all_sd G l).l),
    (fun N sc e hc => absurd (show false = true from hc) Bool.false_ne_true),
    (fun N sc e hc => absurd (show false = true from hc) Bool.false_ne_true),
    (fun N sc e hc => absurd (show false = true from hc) Bool.false_ne_true),
    (fun N sc e hc => absurd (show false = true from hc) Bool.false_ne_true),
    (fun N sc e hc => absurd (show false = true from hc) Bool.false_ne_true),
    (fun N sc e hc => absurd (show false = true from hc) Bool.false_ne_true),
    (fun N sc e hc => absurd (show false = true from hc) Bool.false_ne_true),
    (fun N sc e hc => absurd (show false = true from hc) Bool.false_ne_true),
    (fun N sc e hc => absurd (show false = true from hc) Bool.false_ne_true)⟩
  | .pop l => ⟨(sd_pop (all_sd G l).l),
    (fun N sc e hc => absurd (show false = true from hc) Bool.false_ne_true),
    (fun N sc e hc => absurd (show false = true from hc) Bool.false_ne_true),
    (fun N sc e hc => absurd (show false = true from hc) Bool.false_ne_true),
    (fun N sc e hc => absurd (show false = true from hc) Bool.false_ne_true),
    (fun N sc e hc => absurd (show false = true from hc) Bool.false_ne_true),
    (fun N sc e hc => absurd (show false = true from hc) Bool.false_ne_true),
    (fun N sc e hc => absurd (show false = true from hc) Bool.false_ne_true),
    (fun N sc e hc => absurd (show false = true from hc) Bool.false_ne_true),
    (fun N sc e hc => absurd (show false = true from hc) Bool.false_ne_true)⟩
  | .popAt l e => ⟨(sd_popAt (all_sd G l).l (all_sd G e).e),
    (fun N sc e hc => absurd (show false = true from hc) Bool.false_ne_true),
    (fun N sc e hc => absurd (show false = true from hc) Bool.false_ne_true),
    (fun N sc e hc => absurd (show false = true from hc) Bool.false_ne_true),
    (fun N sc e hc => absurd (show false = true from hc) Bool.false_ne_true),
    (fun N sc e hc => absurd (show false = true from hc) Bool.false_ne_true),
    (fun N sc e hc => absurd (show false = true from hc) Bool.false_ne_true),
    (fun N sc e hc => absurd (show false = true from hc) Bool.false_ne_true),
    (fun N sc e hc => absurd (show false = true from hc) Bool.false_ne_true),
    (fun N sc e hc => absurd (show false = true from hc) Bool.false_ne_true)⟩
  | .dget l k d => ⟨(fun N sc e hc => absurd (show false = true from hc) Bool.false_ne_true),
    (fun N sc e hc => absurd (show false = true from hc) Bool.false_ne_true),
    (fun N sc e hc => absurd (show false = true from hc) Bool.false_ne_true),
    (fun N sc e hc => absurd (show false = true from hc) Bool.false_ne_true),
    (fun N sc e hc => absurd (show false = true from hc) Bool.false_ne_true),
    (fun N sc e hc => absurd (show false = true from hc) Bool.false_ne_true),
    (fun N sc e hc => absurd (show false = true from hc) Bool.false_ne_true),
    (fun N sc e hc => absurd (show false = true from hc) Bool.false_ne_true),
    (fun N sc e hc => absurd (show false = true from hc) Bool.false_ne_true),
    (fun N sc e hc => absurd (show false = true from hc) Bool.false_ne_true)⟩
  | .dhas n l k => ⟨(fun N sc e hc => absurd (show false = true from hc) Bool.false_ne_true),
    (fun N sc e hc => absurd (show false = true from hc) Bool.false_ne_true),
    (fun N sc e hc => absurd (show false = true from hc) Bool.false_ne_true),
    (fun N sc e hc => absurd (show false = true from hc) Bool.false_ne_true),
    (fun N sc e hc => absurd (show false = true from hc) Bool.false_ne_true),
    (fun N sc e hc => absurd (show false = true from hc) Bool.false_ne_true),
    (fun N sc e hc => absurd (show false = true from hc) Bool.false_ne_true),
    (fun N sc e hc => absurd (show false = true from hc) Bool.false_ne_true),
    (fun N sc e hc => absurd (show false = true from hc) Bool.false_ne_true),
    (fun N sc e hc => absurd (show false = true from hc) Bool.false_ne_true)⟩
  | .dixg x k => ⟨(fun N sc e hc => absurd (show false = true from hc) Bool.false_ne_true),
    (fun N sc e hc => absurd (show false = true from hc) Bool.false_ne_true),
    (fun N sc e hc => absurd (show false = true from hc) Bool.false_ne_true),
    (fun N sc e hc => absurd (show false = true from hc) Bool.false_ne_true),
    (fun N sc e hc => absurd (show false = true from hc) Bool.false_ne_true),
    (fun N sc e hc => absurd (show false = true from hc) Bool.false_ne_true),
    (fun N sc e hc => absurd (show false = true from hc) Bool.false_ne_true),
    (fun N sc e hc => absurd (show false = true from hc) Bool.false_ne_true),
    (fun N sc e hc => absurd (show false = true from hc) Bool.false_ne_true),
    (fun N sc e hc => absurd (show false = true from hc) Bool.false_ne_true)⟩
  | .sset e => ⟨(sd_sset (all_sd G e).e),
    (fun N sc e hc => absurd (show false = true from hc) Bool.false_ne_true),
    (fun N sc e hc => absurd (show false = true from hc) Bool.false_ne_true),
    (fun N sc e hc => absurd (show false = true from hc) Bool.false_ne_true),
    (fun N sc e hc => absurd (show false = true from hc) Bool.false_ne_true),
    (fun N sc e hc => absurd (show false = true from hc) Bool.false_ne_true),
    (fun N sc e hc => absurd (show false = true from hc) Bool.false_ne_true),
    (fun N sc e hc => absurd (show false = true from hc) Bool.false_ne_true),
    (fun N sc e hc => absurd (show false = true from hc) Bool.false_ne_true),
    (fun N sc e hc => absurd (show false = true from hc) Bool.false_ne_true)⟩
  | .isi t a => ⟨(sd_isi (all_sd G a).e),
    (fun N sc e hc => absurd (show false = true from hc) Bool.false_ne_true),
    (fun N sc e hc => absurd (show false = true from hc) Bool.false_ne_true),
    (fun N sc e hc => absurd (show false = true from hc) Bool.false_ne_true),
    (fun N sc e hc => absurd (show false = true from hc) Bool.false_ne_true),
    (fun N sc e hc => absurd (show false = true from hc) Bool.false_ne_true),
    (fun N sc e hc => absurd (show false = true from hc) Bool.false_ne_true),
    (fun N sc e hc => absurd (show false = true from hc) Bool.false_ne_true),
    (fun N sc e hc => absurd (show false = true from hc) Bool.false_ne_true),
    (fun N sc e hc => absurd (show false = true from hc) Bool.false_ne_true)⟩
  | .call f args => ⟨(fun N sc e hc => absurd (show false = true from hc) Bool.false_ne_true),
    (fun N sc e hc => absurd (show false = true from hc) Bool.false_ne_true),
    (fun N sc e hc => absurd (show false = true from hc) Bool.false_ne_true),
    (fun N sc e hc => absurd (show false = true from hc) Bool.false_ne_true),
    (fun N sc e hc => absurd (show false = true from hc) Bool.false_ne_true),
    (fun N sc e hc => absurd (show false = true from hc) Bool.false_ne_true),
    (sd_call (all_sd G args).a),
    (fun N sc e hc => absurd (show false = true from hc) Bool.false_ne_true),
    (fun N sc e hc => absurd (show false = true from hc) Bool.false_ne_true),
    (fun N sc e hc => absurd (show false = true from hc) Bool.false_ne_true)⟩
  | .meth l c m args => ⟨(fun N sc e hc => absurd (show false = true from hc) Bool.false_ne_true),
    (fun N sc e hc => absurd (show false = true from hc) Bool.false_ne_true),
    (fun N sc e hc => absurd (show false = true from hc) Bool.false_ne_true),
    (fun N sc e hc => absurd (show false = true from hc) Bool.false_ne_true),
    (fun N sc e hc => absurd (show false = true from hc) Bool.false_ne_true),
    (fun N sc e hc => absurd (show false = true from hc) Bool.false_ne_true),
    (sd_meth (all_sd G l).l (all_sd G args).a),
    (fun N sc e hc => absurd (show false = true from hc) Bool.false_ne_true),
    (fun N sc e hc => absurd (show false = true from hc) Bool.false_ne_true),
    (fun N sc e hc => absurd (show false = true from hc) Bool.false_ne_true)⟩
  | .lvar i => ⟨(fun N sc e hc => absurd (show false = true from hc) Bool.false_ne_true),
    (fun N sc e hc => absurd (show false = true from hc) Bool.false_ne_true),
    (fun N sc e hc => absurd (show false = true from hc) Bool.false_ne_true),
    (fun N sc e hc => absurd (show false = true from hc) Bool.false_ne_true),
    (sd_lvar i),
    (fun N sc e hc => absurd (show false = true from hc) Bool.false_ne_true),
    (fun N sc e hc => absurd (show false = true from hc) Bool.false_ne_true),
    (fun N sc e hc => absurd (show false = true from hc) Bool.false_ne_true),
    (fun N sc e hc => absurd (show false = true from hc) Bool.false_ne_true),
    (fun N sc e hc => absurd (show false = true from hc) Bool.false_ne_true)⟩
  | .lfld l f => ⟨(fun N sc e hc => absurd (show false = true from hc) Bool.false_ne_true),
    (fun N sc e hc => absurd (show false = true from hc) Bool.false_ne_true),
    (fun N sc e hc => absurd (show false = true from hc) Bool.false_ne_true),
    (fun N sc e hc => absurd (show false = true from hc) Bool.false_ne_true),
    (sd_lfld (all_sd G l).l),
    (fun N sc e hc => absurd (show false = true from hc) Bool.false_ne_true),
    (fun N sc e hc => absurd (show false = true from hc) Bool.false_ne_true),
    (fun N sc e hc => absurd (show false = true from hc) Bool.false_ne_true),
    (fun N sc e hc => absurd (show false = true from hc) Bool.false_ne_true),
    (fun N sc e hc => absurd (show false = true from hc) Bool.false_ne_true)⟩
  | .lix l e => ⟨(fun N sc e hc => absurd (show false = true from hc) Bool.false_ne_true),
    (fun N sc e hc => absurd (show false = true from hc) Bool.false_ne_true),
    (fun N sc e hc => absurd (show false = true from hc) Bool.false_ne_true),
    (fun N sc e hc => absurd (show false = true from hc) Bool.false_ne_true),
    (sd_lix (all_sd G l).l (all_sd G e).e),
    (fun N sc e hc => absurd (show false = true from hc) Bool.false_ne_true),
    (fun N sc e hc => absurd (show false = true from hc) Bool.false_ne_true),
    (fun N sc e hc => absurd (show false = true from hc) Bool.false_ne_true),
    (fun N sc e hc => absurd (show false = true from hc) Bool.false_ne_true),
    (fun N sc e hc => absurd (show false = true from hc) Bool.false_ne_true)⟩
  | .lkey l e => ⟨(fun N sc e hc => absurd (show false = true from hc) Bool.false_ne_true),
    (fun N sc e hc => absurd (show false = true from hc) Bool.false_ne_true),
    (fun N sc e hc => absurd (show false = true from hc) Bool.false_ne_true),
    (fun N sc e hc => absurd (show false = true from hc) Bool.false_ne_true),
    (sd_lkey (all_sd G l).l (all_sd G e).e),
    (fun N sc e hc => absurd (show false = true from hc) Bool.false_ne_true),
    (fun N sc e hc => absurd (show false = true from hc) Bool.false_ne_true),
    (fun N sc e hc => absurd (show false = true from hc) Bool.false_ne_true),
    (fun N sc e hc => absurd (show false = true from hc) Bool.false_ne_true),
    (fun N sc e hc => absurd (show false = true from hc) Bool.false_ne_true)⟩
  | .lnk l e => ⟨(fun N sc e hc => absurd (show false = true from hc) Bool.false_ne_true),
    (fun N sc e hc => absurd (show false = true from hc) Bool.false_ne_true),
    (fun N sc e hc => absurd (show false = true from hc) Bool.false_ne_true),
    (fun N sc e hc => absurd (show false = true from hc) Bool.false_ne_true),
    (fun N sc e hc => absurd (show false = true from hc) Bool.false_ne_true),
    (fun N sc e hc => absurd (show false = true from hc) Bool.false_ne_true),
    (fun N sc e hc => absurd (show false = true from hc) Bool.false_ne_true),
    (fun N sc e hc => absurd (show false = true from hc) Bool.false_ne_true),
    (fun N sc e hc => absurd (show false = true from hc) Bool.false_ne_true),
    (fun N sc e hc => absurd (show false = true from hc) Bool.false_ne_true)⟩
  | .lsetd l e => ⟨(fun N sc e hc => absurd (show false = true from hc) Bool.false_ne_true),
    (fun N sc e hc => absurd (show false = true from hc) Bool.false_ne_true),
    (fun N sc e hc => absurd (show false = true from hc) Bool.false_ne_true),
    (fun N sc e hc => absurd (show false = true from hc) Bool.false_ne_true),
    (fun N sc e hc => absurd (show false = true from hc) Bool.false_ne_true),
    (fun N sc e hc => absurd (show false = true from hc) Bool.false_ne_true),
    (fun N sc e hc => absurd (show false = true from hc) Bool.false_ne_true),
    (fun N sc e hc => absurd (show false = true from hc) Bool.false_ne_true),
    (fun N sc e hc => absurd (show false = true from hc) Bool.false_ne_true),
    (fun N sc e hc => absurd (show false = true from hc) Bool.false_ne_true)⟩
  | .lsetn l e => ⟨(fun N sc e hc => absurd (show false = true from hc) Bool.false_ne_true),
    (fun N sc e hc => absurd (show false = true from hc) Bool.false_ne_true),
    (fun N sc e hc => absurd (show false = true from hc) Bool.false_ne_true),
    (fun N sc e hc => absurd (show false = true from hc) Bool.false_ne_true),
    (fun N sc e hc => absurd (show false = true from hc) Bool.false_ne_true),
    (fun N sc e hc => absurd (show false = true from hc) Bool.false_ne_true),
    (fun N sc e hc => absurd (show false = true from hc) Bool.false_ne_true),
    (fun N sc e hc => absurd (show false = true from hc) Bool.false_ne_true),
    (fun N sc e hc => absurd (show false = true from hc) Bool.false_ne_true),
    (fun N sc e hc => absurd (show false = true from hc) Bool.false_ne_true)⟩
  | .tvar i => ⟨(fun N sc e hc => absurd (show false = true from hc) Bool.false_ne_true),
    (fun N sc e hc => absurd (show false = true from hc) Bool.false_ne_true),
    (fun N sc e hc => absurd (show false = true from hc) Bool.false_ne_true),
    (fun N sc e hc => absurd (show false = true from hc) Bool.false_ne_true),
    (fun N sc e hc => absurd (show false = true from hc) Bool.false_ne_true),
    (fun N sc e hc => absurd (show false = true from hc) Bool.false_ne_true),
    (fun N sc e hc => absurd (show false = true from hc) Bool.false_ne_true),
    (fun N sc e hc => absurd (show false = true from hc) Bool.false_ne_true),
    (fun N sc e hc => absurd (show false = true from hc) Bool.false_ne_true),
    (fun N sc e hc => absurd (show false = true from hc) Bool.false_ne_true)⟩
  | .tsub l e => ⟨(fun N sc e hc => absurd (show false = true from hc) Bool.false_ne_true),
    (fun N sc e hc => absurd (show false = true from hc) Bool.false_ne_true),
    (fun N sc e hc => absurd (show false = true from hc) Bool.false_ne_true),
    (fun N sc e hc => absurd (show false = true from hc) Bool.false_ne_true),
    (fun N sc e hc => absurd (show false = true from hc) Bool.false_ne_true),
    (fun N sc e hc => absurd (show false = true from hc) Bool.false_ne_true),
    (fun N sc e hc => absurd (show false = true from hc) Bool.false_ne_true),
    (fun N sc e hc => absurd (show false = true from hc) Bool.false_ne_true),
    (fun N sc e hc => absurd (show false = true from hc) Bool.false_ne_true),
    (fun N sc e hc => absurd (show false = true from hc) Bool.false_ne_true)⟩
  | .tkey l e => ⟨(fun N sc e hc => absurd (show false = true from hc) Bool.false_ne_true),
    (fun N sc e hc => absurd (show false = true from hc) Bool.false_ne_true),
    (fun N sc e hc => absurd (show false = true from hc) Bool.false_ne_true),
    (fun N sc e hc => absurd (show false = true from hc) Bool.false_ne_true),
    (fun N sc e hc => absurd (show false = true from hc) Bool.false_ne_true),
    (fun N sc e hc => absurd (show false = true from hc) Bool.false_ne_true),
    (fun N sc e hc => absurd (show false = true from hc) Bool.false_ne_true),
    (fun N sc e hc => absurd (show false = true from hc) Bool.false_ne_true),
    (fun N sc e hc => absurd (show false = true from hc) Bool.false_ne_true),
    (fun N sc e hc => absurd (show false = true from hc) Bool.false_ne_true)⟩
  | .range1 a => ⟨(fun N sc e hc => absurd (show false = true from hc) Bool.false_ne_true),
    (fun N sc e hc => absurd (show false = true from hc) Bool.false_ne_true),
    (fun N sc e hc => absurd (show false = true from hc) Bool.false_ne_true),
    (fun N sc e hc => absurd (show false = true from hc) Bool.false_ne_true),
    (fun N sc e hc => absurd (show false = true from hc) Bool.false_ne_true),
    (sd_range1 (all_sd G a).e),
    (fun N sc e hc => absurd (show false = true from hc) Bool.false_ne_true),
    (fun N sc e hc => absurd (show false = true from hc) Bool.false_ne_true),
    (fun N sc e hc => absurd (show false = true from hc) Bool.false_ne_true),
    (fun N sc e hc => absurd (show false = true from hc) Bool.false_ne_true)⟩
  | .range2 a b => ⟨(fun N sc e hc => absurd (show false = true from hc) Bool.false_ne_true),
    (fun N sc e hc => absurd (show false = true from hc) Bool.false_ne_true),
    (fun N sc e hc => absurd (show false = true from hc) Bool.false_ne_true),
    (fun N sc e hc => absurd (show false = true from hc) Bool.false_ne_true),
    (fun N sc e hc => absurd (show false = true from hc) Bool.false_ne_true),
    (sd_range2 (all_sd G a).e (all_sd G b).e),
    (fun N sc e hc => absurd (show false = true from hc) Bool.false_ne_true),
    (fun N sc e hc => absurd (show false = true from hc) Bool.false_ne_true),
    (fun N sc e hc => absurd (show false = true from hc) Bool.false_ne_true),
    (fun N sc e hc => absurd (show false = true from hc) Bool.false_ne_true)⟩
  | .range3 a b c => ⟨(fun N sc e hc => absurd (show false = true from hc) Bool.false_ne_true),
    (fun N sc e hc => absurd (show false = true from hc) Bool.false_ne_true),
    (fun N sc e hc => absurd (show false = true from hc) Bool.false_ne_true),
    (fun N sc e hc => absurd (show false = true from hc) Bool.false_ne_true),
    (fun N sc e hc => absurd (show false = true from hc) Bool.false_ne_true),
    (sd_range3 (all_sd G a).e (all_sd G b).e (all_sd G c).e),
    (fun N sc e hc => absurd (show false = true from hc) Bool.false_ne_true),
    (fun N sc e hc => absurd (show false = true from hc) Bool.false_ne_true),
    (fun N sc e hc => absurd (show false = true from hc) Bool.false_ne_true),
    (fun N sc e hc => absurd (show false = true from hc) Bool.false_ne_true)⟩
  | .revI a => ⟨(fun N sc e hc => absurd (show false = true from hc) Bool.false_ne_true),
    (fun N sc e hc => absurd (show false = true from hc) Bool.false_ne_true),
    (fun N sc e hc => absurd (show false = true from hc) Bool.false_ne_true),
    (fun N sc e hc => absurd (show false = true from hc) Bool.false_ne_true),
    (fun N sc e hc => absurd (show false = true from hc) Bool.false_ne_true),
    (sd_revI (all_sd G a).e),
    (fun N sc e hc => absurd (show false = true from hc) Bool.false_ne_true),
    (fun N sc e hc => absurd (show false = true from hc) Bool.false_ne_true),
    (fun N sc e hc => absurd (show false = true from hc) Bool.false_ne_true),
    (fun N sc e hc => absurd (show false = true from hc) Bool.false_ne_true)⟩
  | .itt e => ⟨(fun N sc e hc => absurd (show false = true from hc) Bool.false_ne_true),
    (fun N sc e hc => absurd (show false = true from hc) Bool.false_ne_true),
    (fun N sc e hc => absurd (show false = true from hc) Bool.false_ne_true),
    (fun N sc e hc => absurd (show false = true from hc) Bool.false_ne_true),
    (fun N sc e hc => absurd (show false = true from hc) Bool.false_ne_true),
    (sd_itt (all_sd G e).e),
    (fun N sc e hc => absurd (show false = true from hc) Bool.false_ne_true),
    (fun N sc e hc => absurd (show false = true from hc) Bool.false_ne_true),
    (fun N sc e hc => absurd (show false = true from hc) Bool.false_ne_true),
    (fun N sc e hc => absurd (show false = true from hc) Bool.false_ne_true)⟩
  | .its e => ⟨(fun N sc e hc => absurd (show false = true from hc) Bool.false_ne_true),
    (fun N sc e hc => absurd (show false = true from hc) Bool.false_ne_true),
    (fun N sc e hc => absurd (show false = true from hc) Bool.false_ne_true),
    (fun N sc e hc => absurd (show false = true from hc) Bool.false_ne_true),
    (fun N sc e hc => absurd (show false = true from hc) Bool.false_ne_true),
    (sd_its (all_sd G e).e),
    (fun N sc e hc => absurd (show false = true from hc) Bool.false_ne_true),
    (fun N sc e hc => absurd (show false = true from hc) Bool.false_ne_true),
    (fun N sc e hc => absurd (show false = true from hc) Bool.false_ne_true),
    (fun N sc e hc => absurd (show false = true from hc) Bool.false_ne_true)⟩
  | .lkv i => ⟨(fun N sc e hc => absurd (show false = true from hc) Bool.false_ne_true),
    (fun N sc e hc => absurd (show false = true from hc) Bool.false_ne_true),
    (fun N sc e hc => absurd (show false = true from hc) Bool.false_ne_true),
    (fun N sc e hc => absurd (show false = true from hc) Bool.false_ne_true),
    (fun N sc e hc => absurd (show false = true from hc) Bool.false_ne_true),
    (sd_lkv i),
    (fun N sc e hc => absurd (show false = true from hc) Bool.false_ne_true),
    (fun N sc e hc => absurd (show false = true from hc) Bool.false_ne_true),
    (fun N sc e hc => absurd (show false = true from hc) Bool.false_ne_true),
    (fun N sc e hc => absurd (show false = true from hc) Bool.false_ne_true)⟩
  | .dkeys l => ⟨(fun N sc e hc => absurd (show false = true from hc) Bool.false_ne_true),
    (fun N sc e hc => absurd (show false = true from hc) Bool.false_ne_true),
    (fun N sc e hc => absurd (show false = true from hc) Bool.false_ne_true),
    (fun N sc e hc => absurd (show false = true from hc) Bool.false_ne_true),
    (fun N sc e hc => absurd (show false = true from hc) Bool.false_ne_true),
    (fun N sc e hc => absurd (show false = true from hc) Bool.false_ne_true),
    (fun N sc e hc => absurd (show false = true from hc) Bool.false_ne_true),
    (fun N sc e hc => absurd (show false = true from hc) Bool.false_ne_true),
    (fun N sc e hc => absurd (show false = true from hc) Bool.false_ne_true),
    (fun N sc e hc => absurd (show false = true from hc) Bool.false_ne_true)⟩
  | .ava o => ⟨(fun N sc e hc => absurd (show false = true from hc) Bool.false_ne_true),
    (fun N sc e hc => absurd (show false = true from hc) Bool.false_ne_true),
    (fun N sc e hc => absurd (show false = true from hc) Bool.false_ne_true),
    (fun N sc e hc => absurd (show false = true from hc) Bool.false_ne_true),
    (fun N sc e hc => absurd (show false = true from hc) Bool.false_ne_true),
    (fun N sc e hc => absurd (show false = true from hc) Bool.false_ne_true),
    (fun N sc e hc => absurd (show false = true from hc) Bool.false_ne_true),
    (fun N sc e hc => absurd (show false = true from hc) Bool.false_ne_true),
    (fun N sc e hc => absurd (show false = true from hc) Bool.false_ne_true),
    (sd_ava (all_sd G o).o)⟩
  | .aro l => ⟨(fun N sc e hc => absurd (show false = true from hc) Bool.false_ne_true),
    (fun N sc e hc => absurd (show false = true from hc) Bool.false_ne_true),
    (fun N sc e hc => absurd (show false = true from hc) Bool.false_ne_true),
    (fun N sc e hc => absurd (show false = true from hc) Bool.false_ne_true),
    (fun N sc e hc => absurd (show false = true from hc) Bool.false_ne_true),
    (fun N sc e hc => absurd (show false = true from hc) Bool.false_ne_true),
    (fun N sc e hc => absurd (show false = true from hc) Bool.false_ne_true),
    (fun N sc e hc => absurd (show false = true from hc) Bool.false_ne_true),
    (fun N sc e hc => absurd (show false = true from hc) Bool.false_ne_true),
    (sd_aro (all_sd G l).l)⟩
  | .arw l => ⟨(fun N sc e hc => absurd (show false = true from hc) Bool.false_ne_true),
    (fun N sc e hc => absurd (show false = true from hc) Bool.false_ne_true),
    (fun N sc e hc => absurd (show false = true from hc) Bool.false_ne_true),
    (fun N sc e hc => absurd (show false = true from hc) Bool.false_ne_true),
    (fun N sc e hc => absurd (show false = true from hc) Bool.false_ne_true),
    (fun N sc e hc => absurd (show false = true from hc) Bool.false_ne_true),
    (fun N sc e hc => absurd (show false = true from hc) Bool.false_ne_true),
    (fun N sc e hc => absurd (show false = true from hc) Bool.false_ne_true),
    (fun N sc e hc => absurd (show false = true from hc) Bool.false_ne_true),
    (sd_arw (all_sd G l).l)⟩
  | .ofz e => ⟨(fun N sc e hc => absurd (show false = true from hc) Bool.false_ne_true),
    (fun N sc e hc => absurd (show false = true from hc) Bool.false_ne_true),
    (fun N sc e hc => absurd (show false = true from hc) Bool.false_ne_true),
    (fun N sc e hc => absurd (show false = true from hc) Bool.false_ne_true),
    (fun N sc e hc => absurd (show false = true from hc) Bool.false_ne_true),
    (fun N sc e hc => absurd (show false = true from hc) Bool.false_ne_true),
    (sd_ofz (all_sd G e).e),
    (fun N sc e hc => absurd (show false = true from hc) Bool.false_ne_true),
    (fun N sc e hc => absurd (show false = true from hc) Bool.false_ne_true),
    (fun N sc e hc => absurd (show false = true from hc) Bool.false_ne_true)⟩
  | .mv i => ⟨(fun N sc e hc => absurd (show false = true from hc) Bool.false_ne_true),
    (fun N sc e hc => absurd (show false = true from hc) Bool.false_ne_true),
    (fun N sc e hc => absurd (show false = true from hc) Bool.false_ne_true),
    (fun N sc e hc => absurd (show false = true from hc) Bool.false_ne_true),
    (fun N sc e hc => absurd (show false = true from hc) Bool.false_ne_true),
    (fun N sc e hc => absurd (show false = true from hc) Bool.false_ne_true),
    (sd_mv i),
    (fun N sc e hc => absurd (show false = true from hc) Bool.false_ne_true),
    (fun N sc e hc => absurd (show false = true from hc) Bool.false_ne_true),
    (fun N sc e hc => absurd (show false = true from hc) Bool.false_ne_true)⟩
  | .olst es => ⟨(fun N sc e hc => absurd (show false = true from hc) Bool.false_ne_true),
    (fun N sc e hc => absurd (show false = true from hc) Bool.false_ne_true),
    (fun N sc e hc => absurd (show false = true from hc) Bool.false_ne_true),
    (fun N sc e hc => absurd (show false = true from hc) Bool.false_ne_true),
    (fun N sc e hc => absurd (show false = true from hc) Bool.false_ne_true),
    (fun N sc e hc => absurd (show false = true from hc) Bool.false_ne_true),
    (sd_olst (all_sd G es).os),
    (fun N sc e hc => absurd (show false = true from hc) Bool.false_ne_true),
    (fun N sc e hc => absurd (show false = true from hc) Bool.false_ne_true),
    (fun N sc e hc => absurd (show false = true from hc) Bool.false_ne_true)⟩
  | .ocomp own elt tg it ifs => ⟨(fun N sc e hc => absurd (show false = true from hc) Bool.false_ne_true),
    (fun N sc e hc => absurd (show false = true from hc) Bool.false_ne_true),
    (fun N sc e hc => absurd (show false = true from hc) Bool.false_ne_true),
    (fun N sc e hc => absurd (show false = true from hc) Bool.false_ne_true),
    (fun N sc e hc => absurd (show false = true from hc) Bool.false_ne_true),
    (fun N sc e hc => absurd (show false = true from hc) Bool.false_ne_true),
    (sd_ocomp (all_sd G it).i (all_sd G ifs).t (all_sd G elt).o),
    (fun N sc e hc => absurd (show false = true from hc) Bool.false_ne_true),
    (fun N sc e hc => absurd (show false = true from hc) Bool.false_ne_true),
    (fun N sc e hc => absurd (show false = true from hc) Bool.false_ne_true)⟩
  | .olist e => ⟨(fun N sc e hc => absurd (show false = true from hc) Bool.false_ne_true),
    (fun N sc e hc => absurd (show false = true from hc) Bool.false_ne_true),
    (fun N sc e hc => absurd (show false = true from hc) Bool.false_ne_true),
    (fun N sc e hc => absurd (show false = true from hc) Bool.false_ne_true),
    (fun N sc e hc => absurd (show false = true from hc) Bool.false_ne_true),
    (fun N sc e hc => absurd (show false = true from hc) Bool.false_ne_true),
    (sd_olist (all_sd G e).e),
    (fun N sc e hc => absurd (show false = true from hc) Bool.false_ne_true),
    (fun N sc e hc => absurd (show false = true from hc) Bool.false_ne_true),
    (fun N sc e hc => absurd (show false = true from hc) Bool.false_ne_true)⟩
  | .orange a => ⟨(fun N sc e hc => absurd (show false = true from hc) Bool.false_ne_true),
    (fun N sc e hc => absurd (show false = true from hc) Bool.false_ne_true),
    (fun N sc e hc => absurd (show false = true from hc) Bool.false_ne_true),
    (fun N sc e hc => absurd (show false = true from hc) Bool.false_ne_true),
    (fun N sc e hc => absurd (show false = true from hc) Bool.false_ne_true),
    (fun N sc e hc => absurd (show false = true from hc) Bool.false_ne_true),
    (sd_orange (all_sd G a).e),
    (fun N sc e hc => absurd (show false = true from hc) Bool.false_ne_true),
    (fun N sc e hc => absurd (show false = true from hc) Bool.false_ne_true),
    (fun N sc e hc => absurd (show false = true from hc) Bool.false_ne_true)⟩
  | .odk kvs => ⟨(fun N sc e hc => absurd (show false = true from hc) Bool.false_ne_true),
    (fun N sc e hc => absurd (show false = true from hc) Bool.false_ne_true),
    (fun N sc e hc => absurd (show false = true from hc) Bool.false_ne_true),
    (fun N sc e hc => absurd (show false = true from hc) Bool.false_ne_true),
    (fun N sc e hc => absurd (show false = true from hc) Bool.false_ne_true),
    (fun N sc e hc => absurd (show false = true from hc) Bool.false_ne_true),
    (fun N sc e hc => absurd (show false = true from hc) Bool.false_ne_true),
    (fun N sc e hc => absurd (show false = true from hc) Bool.false_ne_true),
    (fun N sc e hc => absurd (show false = true from hc) Bool.false_ne_true),
    (fun N sc e hc => absurd (show false = true from hc) Bool.false_ne_true)⟩
  | .okv k o => ⟨(fun N sc e hc => absurd (show false = true from hc) Bool.false_ne_true),
    (fun N sc e hc => absurd (show false = true from hc) Bool.false_ne_true),
    (fun N sc e hc => absurd (show false = true from hc) Bool.false_ne_true),
    (fun N sc e hc => absurd (show false = true from hc) Bool.false_ne_true),
    (fun N sc e hc => absurd (show false = true from hc) Bool.false_ne_true),
    (fun N sc e hc => absurd (show false = true from hc) Bool.false_ne_true),
    (fun N sc e hc => absurd (show false = true from hc) Bool.false_ne_true),
    (fun N sc e hc => absurd (show false = true from hc) Bool.false_ne_true),
    (fun N sc e hc => absurd (show false = true from hc) Bool.false_ne_true),
    (fun N sc e hc => absurd (show false = true from hc) Bool.false_ne_true)⟩
  | .odn => ⟨(fun N sc e hc => absurd (show false = true from hc) Bool.false_ne_true),
    (fun N sc e hc => absurd (show false = true from hc) Bool.false_ne_true),
    (fun N sc e hc => absurd (show false = true from hc) Bool.false_ne_true),
    (fun N sc e hc => absurd (show false = true from hc) Bool.false_ne_true),
    (fun N sc e hc => absurd (show false = true from hc) Bool.false_ne_true),
    (fun N sc e hc => absurd (show false = true from hc) Bool.false_ne_true),
    (fun N sc e hc => absurd (show false = true from hc) Bool.false_ne_true),
    (fun N sc e hc => absurd (show false = true from hc) Bool.false_ne_true),
    (fun N sc e hc => absurd (show false = true from hc) Bool.false_ne_true),
    (fun N sc e hc => absurd (show false = true from hc) Bool.false_ne_true)⟩
  | .make c args => ⟨(fun N sc e hc => absurd (show false = true from hc) Bool.false_ne_true),
    (fun N sc e hc => absurd (show false = true from hc) Bool.false_ne_true),
    (fun N sc e hc => absurd (show false = true from hc) Bool.false_ne_true),
    (fun N sc e hc => absurd (show false = true from hc) Bool.false_ne_true),
    (fun N sc e hc => absurd (show false = true from hc) Bool.false_ne_true),
    (fun N sc e hc => absurd (show false = true from hc) Bool.false_ne_true),
    (sd_make (all_sd G args).a),
    (fun N sc e hc => absurd (show false = true from hc) Bool.false_ne_true),
    (fun N sc e hc => absurd (show false = true from hc) Bool.false_ne_true),
    (fun N sc e hc => absurd (show false = true from hc) Bool.false_ne_true)⟩
  | .methT o c m args => ⟨(fun N sc e hc => absurd (show false = true from hc) Bool.false_ne_true),
    (fun N sc e hc => absurd (show false = true from hc) Bool.false_ne_true),
    (fun N sc e hc => absurd (show false = true from hc) Bool.false_ne_true),
    (fun N sc e hc => absurd (show false = true from hc) Bool.false_ne_true),
    (fun N sc e hc => absurd (show false = true from hc) Bool.false_ne_true),
    (fun N sc e hc => absurd (show false = true from hc) Bool.false_ne_true),
    (sd_methT (all_sd G o).o (all_sd G args).a),
    (fun N sc e hc => absurd (show false = true from hc) Bool.false_ne_true),
    (fun N sc e hc => absurd (show false = true from hc) Bool.false_ne_true),
    (fun N sc e hc => absurd (show false = true from hc) Bool.false_ne_true)⟩
theorem all_c (G : Gl) : ∀ m : E, SdC G m := fun m => by
  unfold SdC
  split
  · exact ⟨(all_sd G _).i, (all_sd G _).t, (all_sd G _).o⟩
  · exact ⟨(all_sd G _).i, (all_sd G _).t, (all_sd G _).o⟩
  · trivial
structure AllS (G : Gl) (hit : Str → Str → Bool) (m : S) : Prop where
  b : SdS G hit m
  s : Sd1 G hit m
theorem all_st (G : Gl) (hit : Str → Str → Bool) : ∀ m : S, AllS G hit m
  | .skip => ⟨(sd_skip),
    (fun N sc pn st hc => absurd (show false = true from hc) Bool.false_ne_true)⟩
  | .seq a b => ⟨(sd_seq (all_st G hit a).s (all_st G hit b).b),
    (fun N sc pn st hc => absurd (show false = true from hc) Bool.false_ne_true)⟩
  | .asg i o => ⟨(fun N sc pn st hc => absurd (show false = true from hc) Bool.false_ne_true),
    (sd_asg (all_sd G o).o (all_c G o))⟩
  | .asgT tg e => ⟨(fun N sc pn st hc => absurd (show false = true from hc) Bool.false_ne_true),
    (sd_asgT (all_sd G e).e)⟩
  | .par i j a b => ⟨(fun N sc pn st hc => absurd (show false = true from hc) Bool.false_ne_true),
    (fun N sc pn st hc => absurd (show false = true from hc) Bool.false_ne_true)⟩
  | .setix l e o => ⟨(fun N sc pn st hc => absurd (show false = true from hc) Bool.false_ne_true),
    (sd_setix (all_sd G l).l (all_sd G e).e (all_sd G o).o)⟩
  | .setkey l e o => ⟨(fun N sc pn st hc => absurd (show false = true from hc) Bool.false_ne_true),
    (fun N sc pn st hc => absurd (show false = true from hc) Bool.false_ne_true)⟩
  | .setnk l e o => ⟨(fun N sc pn st hc => absurd (show false = true from hc) Bool.false_ne_true),
    (fun N sc pn st hc => absurd (show false = true from hc) Bool.false_ne_true)⟩
  | .setfld l f o => ⟨(fun N sc pn st hc => absurd (show false = true from hc) Bool.false_ne_true),
    (sd_setfld (all_sd G l).l (all_sd G o).o)⟩
  | .nick i l => ⟨(fun N sc pn st hc => absurd (show false = true from hc) Bool.false_ne_true),
    (sd_nick (all_sd G l).l)⟩
  | .ex e => ⟨(fun N sc pn st hc => absurd (show false = true from hc) Bool.false_ne_true),
    (sd_ex (all_sd G e).e)⟩
  | .ret o => ⟨(fun N sc pn st hc => absurd (show false = true from hc) Bool.false_ne_true),
    (sd_ret (all_sd G o).o)⟩
  | .retN => ⟨(fun N sc pn st hc => absurd (show false = true from hc) Bool.false_ne_true),
    (sd_retN)⟩
  | .iff c a b => ⟨(fun N sc pn st hc => absurd (show false = true from hc) Bool.false_ne_true),
    (sd_iff (all_sd G c).t (all_st G hit a).b (all_st G hit b).b)⟩
  | .whil c b => ⟨(fun N sc pn st hc => absurd (show false = true from hc) Bool.false_ne_true),
    (sd_whil (all_sd G c).t (all_st G hit b).b)⟩
  | .fo tg it b => ⟨(fun N sc pn st hc => absurd (show false = true from hc) Bool.false_ne_true),
    (sd_fo (all_sd G it).i (all_st G hit b).b)⟩
  | .brk => ⟨(fun N sc pn st hc => absurd (show false = true from hc) Bool.false_ne_true),
    (sd_brk)⟩
  | .cont => ⟨(fun N sc pn st hc => absurd (show false = true from hc) Bool.false_ne_true),
    (sd_cont)⟩
  | .raise c es => ⟨(fun N sc pn st hc => absurd (show false = true from hc) Bool.false_ne_true),
    (sd_raise (all_sd G es).es)⟩
  | .tryx b h => ⟨(fun N sc pn st hc => absurd (show false = true from hc) Bool.false_ne_true),
    (sd_tryx (all_st G hit b).b)⟩
  | .delk l e => ⟨(fun N sc pn st hc => absurd (show false = true from hc) Bool.false_ne_true),
    (fun N sc pn st hc => absurd (show false = true from hc) Bool.false_ne_true)⟩
  | .pss => ⟨(fun N sc pn st hc => absurd (show false = true from hc) Bool.false_ne_true),
    (sd_pss)⟩
  | .nev => ⟨(fun N sc pn st hc => absurd (show false = true from hc) Bool.false_ne_true),
    (sd_nev)⟩
end Mp

end
section
set_option Elab.async false
set_option linter.all false
set_option maxRecDepth 100000
set_option autoImplicit false
/-! MiniPy, part Z: a def of the text is what its body computes. -/
namespace Mp
open PySem PySem.Spec PyProof.Rows L2

/-- the rule for a def, told that no repr runs around the call -/
theorem fn_ofG {C : Ct} {k : Nat} {f : Addr} {nm qn : Str} {pars : Arguments} {bd : List Stmt} {scp : Scope} {v1 v2 dc mo cv c8 oc : Value} {an od : Option Addr} {osl : Array (Option Value)} {N ps : List Str} {sp : Sp}
    (look : C.K.lookup f = some ⟨oc, od, .func (PySem.W.fnOf nm qn pars bd scp v1 v2 dc mo an cv c8), osl⟩) (code : PySem.W.codeIn C.K cv qn = true) (S : FnScope N ps scp) (num : ∀ vs H Q E, sp vs H Q E → vs.length = ps.length)
    (step : ∀ (A : Around) (out : List PySem.Env) (s : Shared) (H : Hp) (vs : List V) (Q : VK) (E : XK), Room k (A.deeper (envOfC qn scp s.heap.objs.size f cv)) → A.guards = some [] → sp vs H Q E →
      wS (cxOf (L2.CX C.prog C.w) C.prog C.w C.K C.mg C.base N qn scp f cv A out s H E) bd { nx := fun _ H' => Q .non H', rt := Q } (L2.start N vs) H) :
    FnOkG C (k + 1) f (PySem.W.fnOf nm qn pars bd scp v1 v2 dc mo an cv c8) ps sp := by
  constructor
  · exact num
  · intro A out s H args us vs Q E room grd e0 binds rel want
    have nvs := num _ _ _ _ want
    have inK : C.K.In s.heap := e0.mod.kin.keeps fun b o h => (e0.bs b o h).1
    have free : s.heap.NoLimit := e0.mod.nolimit.keeps fun b o h => (e0.bs b o h).1
    have kinds : ∀ y ∈ ps.zip us, scp.names.lookup y.1 = some .local ∨ (scp.names.lookup y.1 = some .cell ∧ ((cellsFrom (s.heap.objs.size + 1) scp.names []).lookup y.1).isSome = true) := by
      rintro ⟨n, v⟩ mem
      exact (S.par n (List.of_mem_zip mem).1).imp id fun h => ⟨h, PySem.W.cellsFrom_some _ _ _ (.inl h)⟩
    refine codeAny_call_function room.depth (inK _ _ look) rfl S.co S.gen rfl (PySem.W.codeRec_of inK code) (binds _ _ _ _ (wpAny_newFunctionEnv_cells S.kind kinds ?_))
    rintro env rfl s1 x
    refine ⟨free.keeps x.toInCall.keep, codeAny_func ?_⟩
    have J : L2.Inv (cxOf (L2.CX C.prog C.w) C.prog C.w C.K C.mg C.base N qn scp f cv A out s H E) [] (L2.start N vs) H s1 := inv_start S room.hd e0 nvs rel x
    have done : ∀ {σ' : Sto} {H' : Hp} {v : V} {u : Value} {s' : Shared}, L2.Inv (cxOf (L2.CX C.prog C.w) C.prog C.w C.K C.mg C.base N qn scp f cv A out s H E) [] σ' H' s' → RelV v u → Q v H' → CE out C.prog C.w H s Q u s' := fun {σ' H' v u s'} I r q => ⟨v, H', I.os, I.bare, I.base, I.hok, r, q⟩
    refine wpAny_mono (step A out s H vs Q E (room.deeper _) grd want [] s1 J) (fun fl s' h => ?_) fun _ _ h => h
    match fl, h with
    | .ret u, ⟨v, σ', H', I, r, q⟩ => exact done I r q
    | .next, ⟨σ', H', I, q⟩ => exact done (v := V.non) (u := Value.none) I rfl q
    | .brk, ⟨_, _, _, q⟩ => exact q.elim
    | .cont, ⟨_, _, _, q⟩ => exact q.elim

/-! ### what a body computes -/
def rwN : List Mode → Nat
  | [] => 0
  | .rw :: ms => rwN ms + 1
  | _ :: ms => rwN ms
/-- the trees behind the run: what the changed one has become -/
def outT (env : Env) : Nat → List Mode → List T → Option (List T)
  | _, [], [] => some []
  | i, .rw :: ms, _ :: ts => match ownT env i, outT env (i + 1) ms ts with
    | some t, some r => some (t :: r)
    | _, _ => none
  | i, _ :: ms, t :: ts => (outT env (i + 1) ms ts).map (t :: ·)
  | _, _, _ => none
def outR (modes : List Mode) (ts : List T) : Res Fl → FR
  | .ok (.ret t) env => match outT env 0 modes ts with
    | some r => .ok t r
    | none => .bad
  | .ok .nx env => match outT env 0 modes ts with
    | some r => .ok (.fz .none) r
    | none => .bad
  | .ok _ _ => .bad
  | .raise x env => match outT env 0 modes ts with
    | some r => .raise x r
    | none => .bad
  | .bad => .bad
/-- a def by its body: how it takes its parameters, how many names it has -/
structure Dfn where
  modes : List Mode
  nl : Nat
  b : S
def startE (D : Dfn) (ts : List T) : Env := slotsOf D.modes ts ++ List.replicate (D.nl - D.modes.length) Sl.no
def fnD (G : Gl) (hit : Str → Str → Bool) (D : Dfn) : Fn := { modes := D.modes, run := fun ts => if rwN D.modes ≤ 1 then outR D.modes ts (evS G hit D.b (startE D ts)) else .bad }
def pinL : Nat → List Mode → List Nat
  | _, [] => []
  | i, .rw :: ms => i :: pinL (i + 1) ms
  | i, _ :: ms => pinL (i + 1) ms

/-! ### the entry -/
theorem slotsOf_len : ∀ {ms : List Mode} {ts : List T}, ts.length = ms.length → (slotsOf ms ts).length = ms.length
  | [], [], _ => rfl
  | m :: ms, t :: ts, h => by simp only [slotsOf, List.length_cons]; rw [slotsOf_len (by simpa using h)]
  | [], _ :: _, h => by simp at h
  | _ :: _, [], h => by simp at h
section
variable {C : Ct} {H Z : Hp} {F : Nat → FS} {P : List (Nat × V)}
/-- further names, still empty -/
theorem Rel.more {σ : Sto} {env : Env} (R : Rel C σ H Z env F P) (n : Nat) : Rel C (σ ++ List.replicate n none) H Z (env ++ List.replicate n Sl.no) F P := by
  have get : ∀ {i : Nat} {s : Sl}, (env ++ List.replicate n Sl.no)[i]? = some s → (env[i]? = some s) ∨ (s = .no ∧ env.length ≤ i ∧ i < env.length + n) := fun {i s} e => by
    by_cases h : i < env.length
    · rw [List.getElem?_append_left h] at e; exact .inl e
    · rw [List.getElem?_append_right (by omega), List.getElem?_replicate] at e
      split at e
      · exact .inr ⟨(Option.some.inj e).symm, by omega, by omega⟩
      · cases e
  have lo : ∀ {i : Nat} {s : Sl}, env[i]? = some s → i < env.length := fun e => (List.getElem?_eq_some_iff.mp e).1
  have sg : ∀ {i : Nat}, i < env.length → (σ ++ List.replicate n none)[i]? = σ[i]? := fun {i} h => List.getElem?_append_left (by rw [R.len]; exact h)
  have rt : ∀ {r : Nat}, r < env.length → rootT (env ++ List.replicate n Sl.no) r = rootT env r := fun {r} h => by
    unfold rootT
    rw [List.getElem?_append_left h]
  have io : ∀ j, IsOwn (env ++ List.replicate n Sl.no) j → IsOwn env j := fun j ⟨t, e⟩ => by
    rcases get e with h | ⟨h, _⟩
    · exact ⟨t, h⟩
    · cases h
  refine ⟨by simp [R.len], fun i s e => ?_, fun i e b => ?_, fun i j b nn ho x => R.dj i j b nn (io i ho) x, fun i b ho x => R.az i b (io i ho) x, R.sub, fun i r p e => ?_, fun q hq => ?_⟩
  · rcases get e with h | ⟨rfl, h1, h2⟩
    · obtain ⟨x, e1, o⟩ := R.slot i s h
      exact ⟨x, by rw [sg (lo h)]; exact e1, o⟩
    · refine ⟨none, ?_, R.out i (List.getElem?_eq_none_iff.mpr h1)⟩
      rw [List.getElem?_append_right (by rw [R.len]; exact h1), List.getElem?_replicate, if_pos (by rw [R.len]; omega)]
  · refine R.out i (List.getElem?_eq_none_iff.mpr ?_) b
    have := List.getElem?_eq_none_iff.mp e
    rw [List.length_append] at this
    omega
  · rcases get e with h | ⟨h, _⟩
    · obtain ⟨v, w, a, b, c, d, f⟩ := R.al i r p h
      have hr : r < env.length := by rw [← R.len]; exact (List.getElem?_eq_some_iff.mp b).1
      exact ⟨v, w, by rw [sg (lo h)]; exact a, by rw [sg hr]; exact b, c, by unfold readP at d ⊢; rw [rt hr]; exact d, f⟩
    · cases h
  · have := R.pr q hq
    have hl := (List.getElem?_eq_some_iff.mp this).1
    rw [List.getElem?_append_left hl]
    exact this
end
def pinV : Nat → List Mode → List V → List (Nat × V)
  | i, .rw :: ms, v :: vs => (i, v) :: pinV (i + 1) ms vs
  | i, _ :: ms, _ :: vs => pinV (i + 1) ms vs
  | _, _, _ => []
theorem pinV_mem : ∀ {ms : List Mode} {vs : List V} {i : Nat} {q : Nat × V}, q ∈ pinV i ms vs → i ≤ q.1 ∧ vs[q.1 - i]? = some q.2 ∧ ms[q.1 - i]? = some .rw ∧ q.1 ∈ pinL i ms
  | [], _, _, _, h => by simp [pinV] at h
  | m :: ms, [], _, _, h => by cases m <;> simp [pinV] at h
  | m :: ms, v :: vs, i, q, h => by
    have tail : q ∈ pinV (i + 1) ms vs → i ≤ q.1 ∧ (v :: vs)[q.1 - i]? = some q.2 ∧ (m :: ms)[q.1 - i]? = some .rw ∧ q.1 ∈ pinL (i + 1) ms := fun h => by
      obtain ⟨a, b, c, d⟩ := pinV_mem h
      obtain ⟨j, hj⟩ : ∃ j, q.1 - i = j + 1 := ⟨q.1 - (i + 1), by omega⟩
      have : q.1 - (i + 1) = j := by omega
      rw [this] at b c
      exact ⟨by omega, by rw [hj]; simpa using b, by rw [hj]; simpa using c, d⟩
    cases m with
    | rw =>
      rcases List.mem_cons.mp h with rfl | h
      · exact ⟨Nat.le_refl _, by simp, by simp, List.mem_cons_self⟩
      · obtain ⟨a, b, c, d⟩ := tail h
        exact ⟨a, b, c, List.mem_cons_of_mem _ d⟩
    | val => exact tail h
    | ro => exact tail h
theorem pinV_has : ∀ {ms : List Mode} {vs : List V} {i j : Nat} {v : V}, ms[j]? = some .rw → vs[j]? = some v → (i + j, v) ∈ pinV i ms vs
  | [], _, _, _, _, h, _ => by simp at h
  | _ :: _, [], _, _, _, _, h => by simp at h
  | m :: ms, w :: vs, i, 0, v, h, e => by
    simp only [List.getElem?_cons_zero, Option.some.injEq] at h e
    subst h; subst e
    exact List.mem_cons_self
  | m :: ms, w :: vs, i, j + 1, v, h, e => by
    have := pinV_has (i := i + 1) (j := j) (by simpa using h) (by simpa using e)
    have e2 : i + 1 + j = i + (j + 1) := by omega
    rw [e2] at this
    cases m with
    | rw => exact List.mem_cons_of_mem _ this
    | val => exact this
    | ro => exact this
theorem outT_get {env : Env} : ∀ {ms : List Mode} {ts r : List T} {i j : Nat}, outT env i ms ts = some r → ms[j]? = some .rw → ∃ t, r[j]? = some t ∧ ownT env (i + j) = some t
  | [], _, _, _, _, _, h => by simp at h
  | m :: ms, [], _, _, _, h, _ => by cases m <;> simp [outT] at h
  | m :: ms, t0 :: ts, r, i, j, h, e => by
    have sh : ∃ t1 r1, r = t1 :: r1 ∧ outT env (i + 1) ms ts = some r1 ∧ (m = .rw → ownT env i = some t1) := by
      cases m with
      | rw =>
        simp only [outT] at h
        cases q1 : ownT env i with
        | none => rw [q1] at h; cases h
        | some t =>
          cases q2 : outT env (i + 1) ms ts with
          | none => rw [q1, q2] at h; cases h
          | some r1 =>
            rw [q1, q2] at h
            exact ⟨t, r1, (Option.some.inj h).symm, rfl, fun _ => rfl⟩
      | val =>
        simp only [outT, Option.map_eq_some_iff] at h
        obtain ⟨r1, a, b⟩ := h
        exact ⟨t0, r1, b.symm, a, fun z => by cases z⟩
      | ro =>
        simp only [outT, Option.map_eq_some_iff] at h
        obtain ⟨r1, a, b⟩ := h
        exact ⟨t0, r1, b.symm, a, fun z => by cases z⟩
    obtain ⟨t1, r1, rfl, h1, h2⟩ := sh
    cases j with
    | zero =>
      simp only [List.getElem?_cons_zero, Option.some.injEq] at e
      exact ⟨t1, rfl, h2 e⟩
    | succ j =>
      obtain ⟨t, a, b⟩ := outT_get (i := i + 1) (j := j) h1 (by simpa using e)
      exact ⟨t, by simpa using a, by rw [← b]; congr 1; omega⟩
theorem rwN_one : ∀ {ms : List Mode} {i j : Nat}, rwN ms ≤ 1 → ms[i]? = some .rw → ms[j]? = some .rw → i = j
  | [], _, _, _, h, _ => by simp at h
  | m :: ms, i, j, n, a, b => by
    have none : ∀ {ms : List Mode} {i : Nat}, rwN ms ≤ 0 → ms[i]? ≠ some .rw := fun {ms} => by
      induction ms with
      | nil => intro i _ h; simp at h
      | cons m ms ih =>
        intro i n h
        cases m with
        | rw => simp [rwN] at n
        | val => cases i with | zero => simp at h | succ i => exact ih (by simpa [rwN] using n) (by simpa using h)
        | ro => cases i with | zero => simp at h | succ i => exact ih (by simpa [rwN] using n) (by simpa using h)
    cases i with
    | zero =>
      cases j with
      | zero => rfl
      | succ j =>
        simp only [List.getElem?_cons_zero, Option.some.injEq] at a
        subst a
        exact absurd (by simpa using b) (none (i := j) (ms := ms) (by simp only [rwN] at n; omega))
    | succ i =>
      cases j with
      | zero =>
        simp only [List.getElem?_cons_zero, Option.some.injEq] at b
        subst b
        exact absurd (by simpa using a) (none (i := i) (ms := ms) (by simp only [rwN] at n; omega))
      | succ j =>
        have n' : rwN ms ≤ 1 := by cases m <;> simp only [rwN] at n <;> omega
        exact congrArg (· + 1) (rwN_one n' (by simpa using a) (by simpa using b))
theorem mem_pinL {ms : List Mode} {vs : List V} {q : Nat × V} (h : q ∈ pinV 0 ms vs) : q.1 ∈ pinL 0 ms := (pinV_mem h).2.2.2
/-- THE RULE: the def computes what its body is read as -/
theorem def_ok {G : Gl} {hit : Str → Str → Bool} {C : Ct} {k : Nat} (gk : GOk G C k) (D : Dfn) {f : Addr} {nm qn : Str} {pars : Arguments} {bd : List Stmt} {scp : Scope} {v1 v2 dc mo cv c8 oc : Value} {an od : Option Addr} {osl : Array (Option Value)} {N ps : List Str}
    (look : C.K.lookup f = some ⟨oc, od, .func (PySem.W.fnOf nm qn pars bd scp v1 v2 dc mo an cv c8), osl⟩) (code : PySem.W.codeIn C.K cv qn = true) (S : FnScope N ps scp) (hps : ps.length = D.modes.length) (hnl : D.nl = N.length)
    (hchk : chkS N scp (pinL 0 D.modes) D.b bd = true) : FnOkG C (k + 1) f (PySem.W.fnOf nm qn pars bd scp v1 v2 dc mo an cv c8) ps (spOf C (fnD G hit D)) := by
  refine fn_ofG look code S (fun vs H Q E h => h.1.trans hps.symm) ?_
  rintro A out s H vs Q E room grd ⟨hl, Z, ts, U, lt, R, m⟩
  have hl : vs.length = D.modes.length := hl
  have lt : ts.length = D.modes.length := lt
  have R : Rel C (vs.map some) H Z (slotsOf D.modes ts) U [] := R
  have hrun : (fnD G hit D).run ts = if rwN D.modes ≤ 1 then outR D.modes ts (evS G hit D.b (startE D ts)) else .bad := rfl
  have hmo : (fnD G hit D).modes = D.modes := rfl
  rw [hrun, hmo] at m
  by_cases h1 : rwN D.modes ≤ 1
  case neg => rw [if_neg h1] at m; exact m.elim
  rw [if_pos h1] at m
  let X := cxOf (L2.CX C.prog C.w) C.prog C.w C.K C.mg C.base N qn scp f cv A out s H E
  have cx : CxOk N scp k X := ⟨rfl, rfl, S.nd, rfl, room, grd, passes_of rfl⟩
  have tk : Takes X (fun cls d _ H => E cls d H) := takes_of rfl rfl rfl rfl
  have R0 : Rel (ctOf X) (L2.start N vs) H Z (startE D ts) U (pinV 0 D.modes vs) := by
    have e1 : L2.start N vs = vs.map some ++ List.replicate (D.nl - D.modes.length) none := by unfold L2.start; rw [hnl, hl]
    rw [e1]
    have R1 := R.more (D.nl - D.modes.length)
    refine ⟨R1.len, R1.slot, R1.out, R1.dj, R1.az, R1.sub, R1.al, fun q hq => ?_⟩
    obtain ⟨_, a, _, _⟩ := pinV_mem hq
    rw [Nat.sub_zero] at a
    have hlt := (List.getElem?_eq_some_iff.mp a).1
    rw [List.getElem?_append_left (by simpa using hlt), List.getElem?_map, a]
    rfl
  have af : ∀ b, Af (startE D ts) U b → Af (slotsOf D.modes ts) U b := fun b ⟨j, ⟨t, e⟩, x⟩ => by
    unfold startE at e
    by_cases h : j < (slotsOf D.modes ts).length
    · rw [List.getElem?_append_left h] at e; exact ⟨j, ⟨t, e⟩, x⟩
    · rw [List.getElem?_append_right (by omega), List.getElem?_replicate] at e
      split at e <;> cases e
  -- the changed parameter at the end
  have fin : ∀ {σ' : Sto} {H' Z' : Hp} {env' : Env} {F' : Nat → FS} {r : List T}, NxS C (L2.start N vs) H Z (startE D ts) U (pinV 0 D.modes vs) σ' H' Z' env' F' → outT env' 0 D.modes ts = some r →
      RwOk C D.modes vs r H' Z' (fun b => ∃ i, D.modes[i]? = some .rw ∧ F' i b) ∧ ∀ b, (∃ i, D.modes[i]? = some .rw ∧ F' i b) → Af env' F' b := fun {σ' H' Z' env' F' r} n hr => by
    have own : ∀ i, D.modes[i]? = some .rw → IsOwn env' i := fun i hi => by
      obtain ⟨t, _, b⟩ := outT_get hr hi
      rw [Nat.zero_add] at b
      exact (n.rel.rootOwn b).choose_spec.2.2
    refine ⟨⟨fun i w hi hw => ?_, fun hno b ⟨i, hi, _⟩ => hno i hi, fun b ⟨i, hi, x⟩ => n.rel.az i b (own i hi) x⟩, fun b ⟨i, hi, x⟩ => ⟨i, own i hi, x⟩⟩
    obtain ⟨t, a, b⟩ := outT_get hr hi
    rw [Nat.zero_add] at b
    obtain ⟨w', h2, h3, _⟩ := n.rel.rootOwn b
    have h4 := n.rel.pr _ (pinV_has (i := 0) hi hw)
    rw [Nat.zero_add] at h4
    rw [h2] at h4
    have := Option.some.inj (Option.some.inj h4)
    subst this
    exact ⟨t, a, h3.ext fun b => ⟨fun ⟨j, hj, x⟩ => by rw [rwN_one h1 hi hj]; exact x, fun x => ⟨i, hi, x⟩⟩⟩
  have nb : evS G hit D.b (startE D ts) ≠ .bad := fun e => by rw [e] at m; exact m
  refine (all_st G hit D.b).b N scp (pinL 0 D.modes) bd hchk X _ k cx ⟨fun _ => rfl, rfl, rfl⟩ tk gk (L2.start N vs) H Z (startE D ts) U (pinV 0 D.modes vs) R0 (fun q hq => mem_pinL hq) nb (fun x env' e σ' H' Z' F' cls dd n xr => ?_) _ ⟨fun env' e σ' H' Z' F' n => ?_, fun env' e => ?_, fun env' e => ?_, fun t env' e v σ' H' Z' F' U' n o => ?_⟩
  · rw [e] at m
    simp only [outR] at m
    cases hr : outT env' 0 D.modes ts with
    | none => rw [hr] at m; exact m.elim
    | some r =>
      rw [hr] at m
      obtain ⟨f1, f2⟩ := fin n hr
      exact m cls dd H' Z' _ xr f1 n.rel.sub (n.stp.mono af fun b y => .inl (f2 b y))
  · rw [e] at m
    simp only [outR] at m
    cases hr : outT env' 0 D.modes ts with
    | none => rw [hr] at m; exact m.elim
    | some r =>
      rw [hr] at m
      obtain ⟨f1, f2⟩ := fin n hr
      exact m .non H' Z' (fun _ => False) _ (.fz .non fun _ x => x) f1 (fun _ x => x.elim) (fun _ x => x.elim) n.rel.sub (n.stp.mono af fun b y => y.elim False.elim fun z => .inl (f2 b z))
  · rw [e] at m; exact m.elim
  · rw [e] at m; exact m.elim
  · rw [e] at m
    simp only [outR] at m
    cases hr : outT env' 0 D.modes ts with
    | none => rw [hr] at m; exact m.elim
    | some r =>
      rw [hr] at m
      obtain ⟨f1, f2⟩ := fin n.n hr
      exact m v H' Z' U' _ o f1 (fun b x ⟨i, _, y⟩ => n.ap i b x y) n.zf n.n.rel.sub (n.st.mono af fun b y => .inl (y.elim .inr fun z => .inl (f2 b z)))
theorem FnG.mono {C : Ct} {k j : Nat} {x : Str} {F : Fn} (h : FnG C k x F) (le : k ≤ j) : FnG C j x F := by
  obtain ⟨a, fd, ps, h1, h2, h3, h4, h5⟩ := h
  exact ⟨a, fd, ps, h1, h2, h3, h4, ⟨h5.len, fun A out s H args us vs Q E hr => h5.run A out s H args us vs Q E (hr.mono le)⟩⟩
end Mp

end
section
set_option Elab.async false
set_option linter.all false
set_option maxRecDepth 100000
set_option autoImplicit false
/-! MiniPy, the end: a law by what its def is read as. -/
namespace Mp
open PySem PySem.Spec PyProof.Rows L2

/-- a script as data -/
def scr (ns : List Int) : PyData := .list (ns.map .int)
theorem dz_ints {K : PySem.W.Frag} {Z : Hp} : ∀ ns : List Int, DzAll K Z (ns.map V.int) (ns.map PyData.int) := fun ns => dpAll_map fun x _ => .int x
/-- the law's def, called with a script, answers True -/
theorem script_run {P : Program} {w : World} {K : PySem.W.Frag} {mg mb : Str → Option Value} {k : Nat} {fa a : Addr} {fd : FuncData} {x : Str} {F : Fn} {s : Shared} {us : List Value} {ns : List Int}
    (KX : K.In s.heap) (noL : ∀ b o, K.lookup b = some o → o.cls ≠ .type "list") (gl : s.heap.Ns mainGlobals mg) (bl : s.heap.Ns builtinsNs mb) (bb : ∀ y : Str, y ≠ "__name__" → mb y = bootBuiltins y) (free : s.heap.NoLimit) (gens : s.gens = #[])
    (at_a : s.heap.get? a = some { cls := .type "list", data := .seq us.toArray }) (wholes : IntsAre us ns) (few : ns.length ≤ sizeLine) (room : Room k callerA)
    (fn : ∀ base : Heap, K.In base → base.Ns mainGlobals mg → FnOkG ⟨P, w, K, mg, base⟩ k fa fd [x] (spOf ⟨P, w, K, mg, base⟩ F)) (bind1 : ∀ (s : Shared) (u : Value), BindsTo s fd ⟨[u], []⟩ [(x, u)]) (mode : F.modes = [.val])
    (law : ∃ ts, F.run [.fz (scr ns)] = .ok (.fz (.bool true)) ts) :
    codeAny (model P w) callerA (.call (.ref fa) ⟨[.ref a], []⟩) (fun r s' => r = .ok (.ret (.bool true)) ∧ OldK s.heap s'.heap ∧ s'.os = s.os ∧ AllBare s'.gens) s := by
  have vals := vals_ints wholes
  have notK : K.lookup a = none := by
    cases h : K.lookup a with
    | none => rfl
    | some o =>
      have h2 := KX a o h
      rw [at_a] at h2
      cases h2
      exact absurd rfl (noL _ _ h)
  -- the script alone is told
  let H : Hp := fun b => if b = a then some (.frz { cls := .type "list", data := .seq us.toArray } (.lst (ns.map V.int))) else none
  have Ha : H a = some (.frz { cls := .type "list", data := .seq us.toArray } (.lst (ns.map V.int))) := if_pos rfl
  have Hb : ∀ {b : Addr}, b ≠ a → H b = none := fun n => if_neg n
  have told : HOk P w H s.heap := fun b u h => by
    by_cases e : b = a
    · subst e
      rw [Ha] at h
      cases h
      exact ⟨at_a, by rw [List.length_map]; exact few, us, _, vals, at_a⟩
    · rw [Hb e] at h; cases h
  have under : ∀ {b : Addr} {o : Obj}, s.heap.get? b = some o → b ≠ a → (hidT s.heap H).get? b = some o := fun h n => hidT_get h (Hb n)
  have space : ∀ {b : Addr} {m : Str → Option Value}, s.heap.Ns b m → (hidT s.heap H).Ns b m := by
    rintro b m ⟨o, es, ep, h, d, r⟩
    refine ⟨o, es, ep, under h ?_, d, r⟩
    rintro rfl
    rw [at_a] at h
    cases h
    exact nomatch d
  have inB : K.In (hidT s.heap H) := fun b o h => under (KX b o h) fun e => by subst e; rw [notK] at h; cases h
  have mod : Mod K mg (hidT s.heap H) := by
    refine ⟨inB, space gl, ⟨mb, space bl, bb⟩, ?_⟩
    obtain ⟨mc, h1, h2⟩ := free
    exact ⟨mc, space h1, h2⟩
  have around : Env0 P w K mg (hidT s.heap H) callerA [] s H := by
    refine ⟨rfl, mod, fun b o h => of_hidT h, Nat.le_of_eq (hidT_size _ _), trivial, ?_, told, .of_eq gens⟩
    intro b hb
    cases (show b ∈ ([] : List Addr) from hb)
  have F1 := fn _ inB (space gl)
  have want : spOf ⟨P, w, K, mg, hidT s.heap H⟩ F [.ref a] H (fun v _ => v = .bl true) fun _ _ _ => False := by
    obtain ⟨ts, hl⟩ := law
    refine ⟨by rw [mode]; rfl, H, [.fz (scr ns)], fun _ _ => False, by rw [mode]; rfl, ?_, ?_⟩
    · rw [mode]
      refine ⟨rfl, fun i sl e => ?_, fun _ _ _ x => x, fun _ _ _ _ _ x => x.elim, fun _ _ _ x => x.elim, Same.refl H, fun i r p e => absurd e slotsOf_noal, fun q hq => by cases hq⟩
      match i, e with
      | 0, e =>
        have e1 : Sl.own (.fz (scr ns)) = sl := Option.some.inj e
        subst e1
        exact ⟨some (.ref a), rfl, .ref a, rfl, .fz (.lst (.inr ⟨_, Ha⟩) (dz_ints ns)) fun _ x => x⟩
      | i + 1, e => simp [slotsOf] at e
    · rw [hl]
      intro v H' Z' Ur Uw o _ _ _ _ _
      cases o with
      | fz d _ => cases d; rfl
  refine codeAny_mono (F1.run callerA [] s H ⟨[.ref a], []⟩ [.ref a] [.ref a] _ _ room rfl around (bind1 s (.ref a)) (.cons rfl .nil) want) fun r s' h => ?_
  match r, h with
  | .error e, h =>
    obtain ⟨_, _, _, _, _, _, _, _, _, _, _, _, no⟩ := h
    exact no.elim
  | .ok .next, h => exact False.elim h
  | .ok .brk, h => exact False.elim h
  | .ok .cont, h => exact False.elim h
  | .ok (.ret u), ⟨v, H', os, bare, un, told', rv, ev⟩ =>
    have ev : v = .bl true := ev
    subst ev
    obtain rfl : u = Value.bool true := rv
    refine ⟨rfl, OldK.of_keep fun b o hg => ?_, os, bare⟩
    by_cases e : b = a
    · subst e
      have h3 := (told' b _ (un.frzs b _ _ Ha)).1
      rw [at_a] at hg
      cases hg
      exact h3
    · exact un.keep b o hg (Hb e) (fun z => by cases (show b ∈ ([] : List Addr) from z)) (by simp)
/-- the goal that the head leaves, from the law's plain promise -/
theorem law_of {l : PySem.W.OpenLaw} {n k : Nat} {q : Program} {loose : List Str} {XP : (Str → Option Value) → Heap → Prop} {YP : World → Heap → Prop} {d : DefRec} {K : Params → PySem.W.Frag} {x : Str} {F : Fn}
    (hn : l.most = some n) (hn2 : n ≤ sizeLine) (hdf : d.params.defaults = []) (room : Room k callerA) (inK : ∀ (w : World) (h : Heap), YP w h → (K w.params).In h)
    (fn : ∀ (w : World) (mg : Str → Option Value) (fa : Addr) (h : Heap), (K w.params).In h → h.Ns mainGlobals mg → mg d.name = some (.ref fa) →
      (∀ b o, (K w.params).lookup b = some o → o.cls ≠ .type "list") ∧ ∃ fd : FuncData, (∀ (s : Shared) (u : Value), BindsTo s fd ⟨[u], []⟩ [(x, u)]) ∧
        ∀ base : Heap, (K w.params).In base → base.Ns mainGlobals mg → FnOkG ⟨l.prog, w, K w.params, mg, base⟩ k fa fd [x] (spOf ⟨l.prog, w, K w.params, mg, base⟩ F))
    (mode : F.modes = [.val]) (law : ∀ ns : List Int, ns.length ≤ n → ∃ ts, F.run [.fz (scr ns)] = .ok (.fz (.bool true)) ts) : PySem.W.WalkO q loose XP YP l.row.toRowW d [] (fun f vs => PySem.call f vs) := by
  refine Att.attach_call hn hdf ?_
  intro w s0 s1 mg mb fa o pm cd doc a us ns G Y ho hd hcd hmg at_a wholes few gens
  obtain ⟨noL, fd, b1, F1⟩ := fn w mg fa _ (inK w _ Y) G.T.g hmg
  exact script_run (inK w _ Y) noL G.T.g G.T.b G.T.builtins G.T.nolimit gens at_a wholes (Nat.le_trans few hn2) room F1 b1 mode (law ns few)
def clsB : Value → Bool
  | .type n => !(n == "list")
  | _ => true
theorem look_mem {α : Type} : ∀ {l : List (Nat × α)} {b : Nat} {o : α}, l.lookup b = some o → (b, o) ∈ l
  | (c, u) :: r, b, o, h => by
    rw [List.lookup_cons] at h
    cases q : b == c with
    | true =>
      rw [q] at h
      have e : b = c := by simpa using q
      have e2 : u = o := by simpa using h
      subst e; subst e2
      exact List.mem_cons_self
    | false =>
      rw [q] at h
      exact List.mem_cons_of_mem _ (look_mem h)
theorem nol_of {K : PySem.W.Frag} (h : (K.all fun p => clsB p.2.cls) = true) : ∀ b o, K.lookup b = some o → o.cls ≠ .type "list" := fun b o e q => by
  rw [List.all_eq_true] at h
  have := h (b, o) (look_mem e)
  rw [show ((b, o) : Addr × Obj).2.cls = .type "list" from q] at this
  cases this
/-! ### the program around -/
/-- defs, methods, classes' first methods, fields -/
structure Tab where
  fs : List (Str × Fn) := []
  ms : List ((Str × Str) × Fn) := []
  is : List (Str × Fn) := []
  fl : List (Str × Str) := []
  xs : List (Str × List Str) := []
  hs : List ((Str × Str) × Bool) := []
def mkG (con : List (Str × PyData)) (t : Tab) : Gl := ⟨fun x => lookA t.fs x, fun c m => lookA t.ms (c, m), fun c => lookA t.is c, fun x => lookA con x, fun c f => t.fl.any fun p => decide (p = (c, f)), fun c => lookA t.xs c, fun c d => lookA t.hs (c, d)⟩
def ConOk (C : Ct) (con : List (Str × PyData)) : Prop := ∀ x d, lookA con x = some d → ∃ u v, C.mg x = some u ∧ RelV v u ∧ Dz C.K (fun _ => none) v d
structure TabOk (C : Ct) (k : Nat) (t : Tab) : Prop where
  f : ∀ x F, lookA t.fs x = some F → FnG C k x F
  m : ∀ c x F, lookA t.ms (c, x) = some F → MeG C k c x F
  i : ∀ c F, lookA t.is c = some F → MkG C k c F
  l : ∀ c f A, (t.fl.any fun p => decide (p = (c, f))) = true → C.mg c = some (.ref A) → Cls C.K A ∧ NoAttr C.K A f
  x : ∀ c fl, lookA t.xs c = some fl → ExG C k c fl
  h : ∀ c d b, lookA t.hs (c, d) = some b → HitG C c d b
structure Blt (C : Ct) : Prop where
  bi : ∀ f : Bi, C.mg (biName f) = none
  rg : C.mg "range" = none ∧ C.mg "reversed" = none ∧ C.mg "set" = none ∧ C.mg "isinstance" = none ∧ C.mg "bool" = none
theorem gok_mk {C : Ct} {k : Nat} {con : List (Str × PyData)} {t : Tab} (b : Blt C) (c : ConOk C con) (h : TabOk C k t) : GOk (mkG con t) C k := ⟨b.bi, b.rg, c, h.f, h.l, h.m, h.i, h.x, h.h⟩
theorem FnOkG.mono {C : Ct} {k j : Nat} {a : Addr} {fd : FuncData} {ps : List Str} {sp : Sp} (h : FnOkG C k a fd ps sp) (le : k ≤ j) : FnOkG C j a fd ps sp := ⟨h.len, fun A out s H args us vs Q E hr => h.run A out s H args us vs Q E (hr.mono le)⟩
theorem MeG.mono {C : Ct} {k j : Nat} {c m : Str} {F : Fn} (h : MeG C k c m F) (le : k ≤ j) : MeG C j c m F := by
  obtain ⟨A, a, fd, ps, h1, h2, h3, h4, h5, h6⟩ := h
  exact ⟨A, a, fd, ps, h1, h2, h3, h4, h5, h6.mono le⟩
theorem MkG.mono {C : Ct} {k j : Nat} {c : Str} {F : Fn} (h : MkG C k c F) (le : k ≤ j) : MkG C j c F := by
  obtain ⟨A, f, fd, ps, ms, i, rfl, h1, h2, h3, h4, h5, h6⟩ := h
  exact ⟨A, f, fd, ps, ms, j - 1, by omega, h1, h2, h3, h4, h5, h6.mono (by omega)⟩
theorem ExG.mono {C : Ct} {k j : Nat} {c : Str} {fl : List Str} (h : ExG C k c fl) (le : k ≤ j) : ExG C j c fl := by
  obtain ⟨A, f, fd, ps, i, rfl, h1, h2, h3, h4, h5, h6, h7, h8, h9, h10⟩ := h
  exact ⟨A, f, fd, ps, j - 1, by omega, h1, h2, h3, h4, h5, h6, h7, h8, h9, h10.mono (by omega)⟩
theorem TabOk.mono {C : Ct} {k j : Nat} {t : Tab} (h : TabOk C k t) (le : k ≤ j) : TabOk C j t := ⟨fun x F e => (h.f x F e).mono le, fun c x F e => (h.m c x F e).mono le, fun c F e => (h.i c F e).mono le, h.l, fun c fl e => (h.x c fl e).mono le, h.h⟩
theorem tab_nil {C : Ct} {k : Nat} : TabOk C k {} := ⟨(fun x F h => nomatch (show (none : Option Fn) = some F from h)), (fun c x F h => nomatch (show (none : Option Fn) = some F from h)), (fun c F h => nomatch (show (none : Option Fn) = some F from h)), (fun c f A h => nomatch (show false = true from h)), (fun c fl h => nomatch (show (none : Option (List Str)) = some fl from h)), (fun c d b h => nomatch (show (none : Option Bool) = some b from h))⟩
theorem tab_cons {C : Ct} {k : Nat} {x : Str} {F : Fn} {t : Tab} (h : FnG C (k + 1) x F) (h0 : TabOk C k t) : TabOk C (k + 1) { t with fs := (x, F) :: t.fs } := by
  have hm := h0.mono (Nat.le_succ k)
  refine ⟨fun y F' e => ?_, hm.m, hm.i, hm.l, hm.x, hm.h⟩
  simp only [lookA] at e
  by_cases q : x = y
  · rw [if_pos q] at e
    cases e
    subst q
    exact h
  · rw [if_neg q] at e
    exact hm.f y F' e
theorem tab_me {C : Ct} {k : Nat} {c x : Str} {F : Fn} {t : Tab} (h : MeG C (k + 1) c x F) (h0 : TabOk C k t) : TabOk C (k + 1) { t with ms := ((c, x), F) :: t.ms } := by
  have hm := h0.mono (Nat.le_succ k)
  refine ⟨hm.f, fun c' y F' e => ?_, hm.i, hm.l, hm.x, hm.h⟩
  simp only [lookA] at e
  by_cases q : (c, x) = (c', y)
  · rw [if_pos q] at e
    cases e
    cases q
    exact h
  · rw [if_neg q] at e
    exact hm.m c' y F' e
theorem tab_ini {C : Ct} {k : Nat} {c : Str} {F : Fn} {t : Tab} (h : MkG C (k + 1) c F) (h0 : TabOk C k t) : TabOk C (k + 1) { t with is := (c, F) :: t.is } := by
  have hm := h0.mono (Nat.le_succ k)
  refine ⟨hm.f, hm.m, fun c' F' e => ?_, hm.l, hm.x, hm.h⟩
  simp only [lookA] at e
  by_cases q : c = c'
  · rw [if_pos q] at e
    cases e
    subst q
    exact h
  · rw [if_neg q] at e
    exact hm.i c' F' e
theorem tab_fld {C : Ct} {k : Nat} {c f : Str} {A : Addr} {t : Tab} (hm : C.mg c = some (.ref A)) (cl : Cls C.K A) (na : NoAttr C.K A f) (h0 : TabOk C k t) : TabOk C k { t with fl := (c, f) :: t.fl } := by
  refine ⟨h0.f, h0.m, h0.i, fun c' f' A' e h => ?_, h0.x, h0.h⟩
  simp only [List.any_cons, Bool.or_eq_true, decide_eq_true_eq] at e
  rcases e with e | e
  · cases e
    rw [hm] at h
    cases h
    exact ⟨cl, na⟩
  · exact h0.l c' f' A' e h
theorem tab_exn {C : Ct} {k : Nat} {c : Str} {fl : List Str} {t : Tab} (h : ExG C k c fl) (h0 : TabOk C k t) : TabOk C k { t with xs := (c, fl) :: t.xs } := by
  refine ⟨h0.f, h0.m, h0.i, h0.l, fun c' fl' e => ?_, h0.h⟩
  simp only [lookA] at e
  by_cases q : c = c'
  · rw [if_pos q] at e
    cases e
    subst q
    exact h
  · rw [if_neg q] at e
    exact h0.x c' fl' e
theorem tab_hit {C : Ct} {k : Nat} {c d : Str} {b : Bool} {t : Tab} (h : HitG C c d b) (h0 : TabOk C k t) : TabOk C k { t with hs := ((c, d), b) :: t.hs } := by
  refine ⟨h0.f, h0.m, h0.i, h0.l, h0.x, fun c' d' b' e => ?_⟩
  simp only [lookA] at e
  by_cases q : (c, d) = (c', d')
  · rw [if_pos q] at e
    cases e
    cases q
    exact h
  · rw [if_neg q] at e
    exact h0.h c' d' b' e
theorem hit_own {C : Ct} {c d : Str} {A B : Addr} {b : Bool} (h1 : C.mg c = some (.ref A)) (h2 : C.mg d = some (.ref B)) (k1 : PySem.W.kitOne C.K (.ref A) (.ref B) = some b) (k2 : PySem.W.exmOne C.K (.ref A) (.ref B) = some b) (x : ExcC C.K A) : HitG C c d b :=
  ⟨A, .ref B, .ref B, h1, rfl, fun u h => h, .inl h2, k1, k2, x⟩
theorem hit_ty {C : Ct} {c d : Str} {A : Addr} {n : String} {b : Bool} (h1 : C.mg c = some (.ref A)) (h2 : C.mg d = none) (h3 : bootBuiltins d = some (.type n)) (h4 : d ≠ "__name__") (k1 : PySem.W.kitOne C.K (.ref A) (.type n) = some b) (k2 : PySem.W.exmOne C.K (.ref A) (.type n) = some b) (x : ExcC C.K A) : HitG C c d b :=
  ⟨A, .ty n, .type n, h1, rfl, fun u h => h, .inr ⟨h2, h3, h4⟩, k1, k2, x⟩
/-! an exception class's first method -/
def chkInit (N : List Str) (sc : Scope) : Nat → List Str → List Stmt → Bool
  | _, [], [] => true
  | j, f :: fl, .Assign [.Attribute (.Name x _) g _] (.Name y _) _ :: r => decide (f = g) && nameB N sc 0 x && nameB N sc j y && chkInit N sc (j + 1) fl r
  | _, _, _ => false
theorem pe_nm {N : List Str} {sc : Scope} {X : Cx} (e1 : X.N = N) (e2 : X.env.scope = sc) {j : Nat} {y : Str} {pos : Pos} (h : nameB N sc j y = true) : PE X (.Name y pos) (tVar j) := by
  unfold nameB at h
  simp only [Bool.and_eq_true, decide_eq_true_eq, Bool.not_eq_true'] at h
  exact pe_var (by rw [e1]; exact h.1.1.1) (by rw [e2]; exact visB_vis h.1.1.2) h.1.2 h.2
theorem init_run {N : List Str} {sc : Scope} {X : Cx} (e1 : X.N = N) (e2 : X.env.scope = sc) {a A : Addr} (T : OexC X.K A) {σ : Sto} {H0 : Hp} {D : Ends} (ha : σ[0]? = some (some (.ref a))) : ∀ (fl2 : List Str) (st : List Stmt) (j : Nat) (fl1 : List Str) (ws1 ws2 : List V) (H : Hp), chkInit N sc j fl2 st = true →
    (∀ g ∈ fl2, PySem.W.findIn X.K (.ref A) g = some none) → ws1.length = fl1.length → ws2.length = fl2.length → fl1.length + fl2.length ≤ 900 → (∀ (i : Nat) w, ws2[i]? = some w → σ[j + i]? = some (some w)) →
    ((fl1 = [] ∧ H = H0 ∧ H0 a = some (exo a A none) ∧ fl2 ≠ []) ∨ ∃ dx, H0 dx = none ∧ dx ≠ a ∧ H a = some (exo a A (some dx)) ∧ H dx = some (exd dx (fl1.zip ws1).reverse) ∧ ∀ b, b ≠ a → b ≠ dx → H b = H0 b) →
    (∀ dx H', H0 dx = none → dx ≠ a → H' a = some (exo a A (some dx)) → H' dx = some (exd dx ((fl1 ++ fl2).zip (ws1 ++ ws2)).reverse) → (∀ b, b ≠ a → b ≠ dx → H' b = H0 b) → D.nx σ H') → wS X st D σ H
  | [], st, j, fl1, ws1, ws2, H, hc, hno, l1, l2, l9, hw, inv, fin => by
    have es : st = [] := by cases st with | nil => rfl | cons _ _ => simp [chkInit] at hc
    subst es
    have e3 : ws2 = [] := List.length_eq_zero_iff.mp l2
    subst e3
    rcases inv with ⟨_, _, _, n⟩ | ⟨dx, k1, k2, k3, k4, k5⟩
    · exact absurd rfl n
    · exact wS_of pss_nil (fin dx H k1 k2 k3 (by rw [List.append_nil, List.append_nil]; exact k4) k5)
  | f :: fl2, st, j, fl1, ws1, ws2, H, hc, hno, l1, l2, l9, hw, inv, fin => by
    have sh : ∃ x y p1 p2 p3 p4 r, st = .Assign [.Attribute (.Name x p1) f p2] (.Name y p3) p4 :: r ∧ nameB N sc 0 x = true ∧ nameB N sc j y = true ∧ chkInit N sc (j + 1) fl2 r = true := by
      have s0 : ∃ x g y p1 p2 p3 p4 r, st = .Assign [.Attribute (.Name x p1) g p2] (.Name y p3) p4 :: r := by
        unfold chkInit at hc
        split at hc <;> first | contradiction | exact ⟨_, _, _, _, _, _, _, _, rfl⟩ | (rename_i h; exact absurd h (by simp))
      obtain ⟨x, g, y, p1, p2, p3, p4, r, rfl⟩ := s0
      simp only [chkInit, Bool.and_eq_true, decide_eq_true_eq] at hc
      obtain ⟨⟨⟨rfl, c1⟩, c2⟩, c3⟩ := hc
      exact ⟨_, _, _, _, _, _, _, rfl, c1, c2, c3⟩
    obtain ⟨x, y, p1, p2, p3, p4, r, rfl, c1, c2, c3⟩ := sh
    cases ws2 with
    | nil => simp at l2
    | cons w ws2 =>
      have hno2 : ∀ g ∈ fl2, PySem.W.findIn X.K (.ref A) g = some none := fun g hg => hno g (List.mem_cons_of_mem _ hg)
      have next : ∀ H', (∃ dx, H0 dx = none ∧ dx ≠ a ∧ H' a = some (exo a A (some dx)) ∧ H' dx = some (exd dx ((fl1 ++ [f]).zip (ws1 ++ [w])).reverse) ∧ ∀ b, b ≠ a → b ≠ dx → H' b = H0 b) → wS X r D σ H' := fun H' h =>
        init_run e1 e2 T ha fl2 r (j + 1) (fl1 ++ [f]) (ws1 ++ [w]) ws2 H' c3 hno2 (by simp [l1]) (by simpa using l2) (by simp at l9 ⊢; omega) (fun i w' e => by have := hw (i + 1) w' (by simpa using e); rw [← this]; congr 1; omega) (.inr h)
          fun dx H2 a1 a2 a3 a4 a5 => fin dx H2 a1 a2 a3 (by rw [List.append_assoc, List.append_assoc] at a4; exact a4) a5
      refine wS_of (pss_cons (ps_ost (pe_nm e1 e2 c1) (pe_nm e1 e2 c2)) pss_w) ?_
      refine ⟨w, hw 0 w rfl, .ref a, ha, a, A, rfl, T, hno f List.mem_cons_self, ?_⟩
      rcases inv with ⟨rfl, rfl, k1, _⟩ | ⟨dx, k1, k2, k3, k4, k5⟩
      · have e3 : ws1 = [] := List.length_eq_zero_iff.mp l1
        subst e3
        refine .inl ⟨k1, fun dx h1 h2 => next _ ⟨dx, h1, h2, upd_same, by rw [upd_ne h2, upd_same]; rfl, fun b b1 b2 => by rw [upd_ne b1, upd_ne b2]⟩⟩
      · refine .inr ⟨dx, _, k3, k4, by rw [List.length_reverse, List.length_zip]; omega, next _ ⟨dx, k1, k2, by rw [upd_ne (fun z => k2 z.symm)]; exact k3, ?_, fun b b1 b2 => by rw [upd_ne b2]; exact k5 b b1 b2⟩⟩
        rw [upd_same]
        have ez : ((fl1 ++ [f]).zip (ws1 ++ [w])).reverse = (f, w) :: (fl1.zip ws1).reverse := by
          rw [List.zip_append l1.symm, List.reverse_append]
          rfl
        rw [ez]
theorem exn_g {C : Ct} {c qn : Str} {st : Stmt} {f A : Addr} {fd : FuncData} {N ps fl : List Str} (F : L2.Fun C.K "__init__" qn st f fd) (hm : C.mg c = some (.ref A)) (T : OexC C.K A) (x : ExcC C.K A) (hno : ∀ g ∈ fl, PySem.W.findIn C.K (.ref A) g = some none) (iC : PySem.W.findIn C.K (.ref A) "__init__" = some (some (.ref f)))
    (tI : PySem.W.typeIn C.K (.ref f) = some (.type "function")) (S : FnScope N ps (defScope st)) (hps : ps.length = fl.length + 1) (hl : fl.length ≤ 900) (hne : fl ≠ []) (hnl : N.length = ps.length) (hc : chkInit N (defScope st) 1 fl (defBody st) = true) (hb : Binds C.K fd ps []) : ExG C 2 c fl := by
  refine ⟨A, f, fd, ps, 1, rfl, hm, T, x, hno, iC, tI, hb, hps, hl, ?_⟩
  refine F.ok (k := 0) S (fun vs H Q E h => ?_) fun cdv Ar outer s H vs Q E hr hsp => ?_
  · obtain ⟨a, ws, rfl, e, _⟩ := h
    simp [e, hps]
  · obtain ⟨a, ws, rfl, e, k1, k2⟩ := hsp
    have est : L2.start N (.ref a :: ws) = (V.ref a :: ws).map some := by
      unfold L2.start
      have : N.length - (V.ref a :: ws).length = 0 := by simp [e]; omega
      rw [this]
      simp
    refine ⟨_, pss_w, ?_⟩
    refine init_run (a := a) (A := A) rfl rfl T (by rw [est]; rfl) fl (defBody st) 1 [] [] ws H hc hno rfl e (by simpa using hl) (fun i w e2 => ?_) (.inl ⟨rfl, rfl, k1, hne⟩) fun dx H' a1 a2 a3 a4 a5 => k2 dx H' a1 a2 a3 a4 a5
    rw [est, Nat.add_comm, List.getElem?_map, List.getElem?_cons_succ, e2]
    rfl
theorem con_nil {C : Ct} : ConOk C [] := fun x d h => nomatch (show (none : Option PyData) = some d from h)
theorem con_cons {C : Ct} {x : Str} {d : PyData} {con : List (Str × PyData)} (h : ∃ u v, C.mg x = some u ∧ RelV v u ∧ Dz C.K (fun _ => none) v d) (t : ConOk C con) : ConOk C ((x, d) :: con) := fun y d' e => by
  simp only [lookA] at e
  by_cases q : x = y
  · rw [if_pos q] at e
    cases e
    subst q
    exact h
  · rw [if_neg q] at e
    exact t y d' e
/-- a def of the text, in the table -/
theorem fun_g {C : Ct} {k : Nat} {G : Gl} {hit : Str → Str → Bool} (gk : GOk G C k) (D : Dfn) {x : Str} {st : Stmt} {f : Addr} {fd : FuncData} {N ps : List Str} (F : L2.Fun C.K x x st f fd) (hm : C.mg x = some (.ref f)) (S : FnScope N ps (defScope st)) (hps : ps.length = D.modes.length) (hnl : D.nl = N.length)
    (hchk : chkS N (defScope st) (pinL 0 D.modes) D.b (defBody st) = true) (hb : Binds C.K fd ps []) : FnG C (k + 1) x (fnD G hit D) ∧ FnOkG C (k + 1) f fd ps (spOf C (fnD G hit D)) := by
  obtain ⟨oc, od, kV, doc, pm, an, cdv, ct, osl, rfl, lk, hcd⟩ := F.ex
  have h := def_ok (hit := hit) gk D lk hcd S hps hnl hchk
  exact ⟨⟨f, _, ps, hm, F.kp, hb, hps, h⟩, h⟩
/-- a method of the text -/
theorem meth_g {C : Ct} {k : Nat} {G : Gl} {hit : Str → Str → Bool} (gk : GOk G C k) (D : Dfn) {c x qn : Str} {st : Stmt} {f A : Addr} {fd : FuncData} {N ps : List Str} (F : L2.Fun C.K x qn st f fd) (hm : C.mg c = some (.ref A)) (cl : Cls C.K A) (me : Meth C.K A x f) (S : FnScope N ps (defScope st)) (hps : ps.length = D.modes.length) (hnl : D.nl = N.length)
    (hchk : chkS N (defScope st) (pinL 0 D.modes) D.b (defBody st) = true) (hb : Binds C.K fd ps []) : MeG C (k + 1) c x (fnD G hit D) := by
  obtain ⟨oc, od, kV, doc, pm, an, cdv, ct, osl, rfl, lk, hcd⟩ := F.ex
  exact ⟨A, f, _, ps, hm, cl, me, hb, hps, def_ok (hit := hit) gk D lk hcd S hps hnl hchk⟩
/-- a class's first method: the class may be called -/
theorem make_g {C : Ct} {k : Nat} {G : Gl} {hit : Str → Str → Bool} (gk : GOk G C k) (D : Dfn) {c x qn : Str} {st : Stmt} {f A : Addr} {fd : FuncData} {N ps : List Str} {ms : List Mode} (F : L2.Fun C.K x qn st f fd) (hm : C.mg c = some (.ref A)) (M : Mk C.K A f) (S : FnScope N ps (defScope st)) (hps : ps.length = D.modes.length) (hnl : D.nl = N.length)
    (hchk : chkS N (defScope st) (pinL 0 D.modes) D.b (defBody st) = true) (hb : Binds C.K fd ps []) (hmo : D.modes = .rw :: ms) : MkG C (k + 2) c (fnD G hit D) := by
  obtain ⟨oc, od, kV, doc, pm, an, cdv, ct, osl, rfl, lk, hcd⟩ := F.ex
  exact ⟨A, f, _, ps, ms, k + 1, rfl, hm, M, hb, hps, hmo, def_ok (hit := hit) gk D lk hcd S hps hnl hchk⟩
end Mp

end
section
set_option Elab.async false
set_option linter.all false
set_option maxRecDepth 100000
set_option autoImplicit false
/-! MiniPy: what the operations give, one by one (for simp). -/
namespace Mp
open PySem PySem.Spec PyProof.Rows L2

theorem shaped_int (i : Int) : SeqAt.shaped (.int i) = true := rfl
theorem shaped_str (x : Str) : SeqAt.shaped (.str x) = PyData.strOk x := by
  simp [SeqAt.shaped, PyData.canLay0, PyData.depth]
theorem eqv_int (i j : Int) : PyData.eqv (.int i) (.int j) = decide (i = j) := by
  unfold PyData.eqv
  exact Bool.beq_eq_decide_eq i j
theorem r_eqII (i j : Int) : opCmp .eq (.int i) (.int j) = some (decide (i = j)) := by
  simp only [opCmp, eqD, eqD0, shaped_int, Bool.and_self, if_true, eqv_int]
theorem r_neII (i j : Int) : opCmp .ne (.int i) (.int j) = some (!decide (i = j)) := by
  simp only [opCmp, eqD, eqD0, shaped_int, Bool.and_self, if_true, eqv_int, Option.map_some]
theorem r_lt (i j : Int) : opCmp .lt (.int i) (.int j) = some (decide (i < j)) := rfl
theorem r_le (i j : Int) : opCmp .le (.int i) (.int j) = some (decide (i ≤ j)) := rfl
theorem r_gt (i j : Int) : opCmp .gt (.int i) (.int j) = some (decide (j < i)) := rfl
theorem r_ge (i j : Int) : opCmp .ge (.int i) (.int j) = some (decide (j ≤ i)) := rfl
theorem r_add (i j : Int) : opBin .add (.int i) (.int j) = some (.int (i + j)) := rfl
theorem r_sub (i j : Int) : opBin .sub (.int i) (.int j) = some (.int (i - j)) := rfl
theorem r_mulR (i j : Int) (h : j.natAbs < 2 ^ 64) : opBin .mul (.int i) (.int j) = some (.int (i * j)) := by simp only [opBin]; rw [if_pos (.inr h)]
theorem r_mulL (i j : Int) (h : i.natAbs < 2 ^ 64) : opBin .mul (.int i) (.int j) = some (.int (i * j)) := by simp only [opBin]; rw [if_pos (.inl h)]
theorem r_mod (i j : Int) (h : j ≠ 0) : opBin .mod (.int i) (.int j) = some (.int (i.fmod j)) := by simp only [opBin]; rw [if_pos h]
theorem r_fdiv (i j : Int) (h : j ≠ 0) (h2 : j.natAbs < 1073741824) : opBin .fdiv (.int i) (.int j) = some (.int (i.fdiv j)) := by simp only [opBin]; rw [if_pos ⟨h, h2⟩]
theorem r_int (i : Int) : opBi .int [.int i] = some (.int i) := rfl
theorem r_intB (b : Bool) : opBi .int [.bool b] = some (.int (if b then 1 else 0)) := rfl
theorem r_abs (i : Int) : opBi .abs [.int i] = some (.int (if i < 0 then -i else i)) := rfl
theorem r_lenL (xs : List PyData) : opBi .len [.list xs] = some (.int xs.length) := rfl
theorem r_lenT (xs : List PyData) : opBi .len [.tuple xs] = some (.int xs.length) := rfl
theorem r_ixL (xs : List PyData) (i : Int) : ixD (.list xs) (.int i) = atI xs i := rfl
theorem r_ixT (xs : List PyData) (i : Int) : ixD (.tuple xs) (.int i) = atI xs i := rfl
end Mp

end
section
set_option Elab.async false
set_option linter.all false
set_option maxRecDepth 100000
set_option autoImplicit false
/-! MiniPy: what must hold before, for what shall hold behind. -/
namespace Mp
open PySem PySem.Spec PyProof.Rows L2

abbrev XQ := Exn → Env → Prop
def noX : XQ := fun _ _ => False
def Res.wp {α : Type} (r : Res α) (Q : α → Env → Prop) (X : XQ) : Prop := match r with
  | .ok a e => Q a e
  | .raise x e => X x e
  | .bad => False
def FR.wp (r : FR) (Q : T → List T → Prop) (X : Exn → List T → Prop) : Prop := match r with
  | .ok a e => Q a e
  | .raise x e => X x e
  | .bad => False
section
variable {α β : Type} {Q : α → Env → Prop} {X : XQ}
theorem wp_ok {a : α} {e : Env} : (Res.ok a e).wp Q X = Q a e := rfl
theorem wp_raise {x : Exn} {e : Env} : (Res.raise x e : Res α).wp Q X = X x e := rfl
theorem wp_bad : (Res.bad : Res α).wp Q X = False := rfl
theorem wp_bind {r : Res β} {f : β → Env → Res α} : (r.bind f).wp Q X = r.wp (fun a e => (f a e).wp Q X) X := by cases r <;> rfl
theorem wp_ofO {o : Option α} {e : Env} : (Res.ofO o e).wp Q X = ∃ a, o = some a ∧ Q a e := by
  cases o with
  | none => simp [Res.ofO, Res.wp]
  | some a => simp [Res.ofO, Res.wp]
theorem wp_ite {c : Prop} [Decidable c] {r r' : Res α} : (if c then r else r').wp Q X = if c then r.wp Q X else r'.wp Q X := by
  by_cases h : c <;> simp [h]
theorem wp_mono {r : Res α} {Q' : α → Env → Prop} {X' : XQ} (h : r.wp Q X) (q : ∀ a e, Q a e → Q' a e) (x : ∀ y e, X y e → X' y e) : r.wp Q' X' := by
  cases r with
  | ok a e => exact q a e h
  | raise y e => exact x y e h
  | bad => exact h
theorem wp_get {r : Res α} (h : r.wp Q noX) : ∃ a e, r = .ok a e ∧ Q a e := by
  cases r with
  | ok a e => exact ⟨a, e, rfl, h⟩
  | raise y e => exact h.elim
  | bad => exact h.elim
theorem calm_wp {r : Res α} (h : r.wp Q noX) : r.calm.wp Q X := by
  cases r with
  | ok a e => exact h
  | raise y e => exact h.elim
  | bad => exact h.elim
end
theorem FR.wp_get {r : FR} {Q : T → List T → Prop} (h : r.wp Q fun _ _ => False) : ∃ a e, r = .ok a e ∧ Q a e := by
  cases r with
  | ok a e => exact ⟨a, e, rfl, h⟩
  | raise y e => exact h.elim
  | bad => exact h.elim

/-! ### a name that holds something unknown, or nothing -/
def opt : Option PyData → Sl
  | none => .no
  | some d => .own (.fz d)
theorem opt_none : opt none = .no := rfl
theorem opt_some (d : PyData) : opt (some d) = .own (.fz d) := rfl
def canS : Sl → Bool
  | .ro _ => false
  | _ => true
theorem canS_no : canS .no = true := rfl
theorem canS_own (t : T) : canS (.own t) = true := rfl
theorem canS_al (r : Nat) (p : List Sg) : canS (.al r p) = true := rfl
theorem canS_opt (o : Option PyData) : canS (opt o) = true := by cases o <;> rfl
theorem dA_own (i : Nat) (t : T) : dropAl i (.own t) = .own t := rfl
theorem dA_ro (i : Nat) (t : T) : dropAl i (.ro t) = .ro t := rfl
theorem dS_own (i : Nat) (q : List Sg) (t : T) : dimS i q (.own t) = .own t := rfl
theorem dropAl_no (i : Nat) : dropAl i .no = .no := rfl
theorem dropAl_al (i r : Nat) (p : List Sg) : dropAl i (.al r p) = if r = i then .no else .al r p := rfl
theorem dropAl_opt (i : Nat) (o : Option PyData) : dropAl i (opt o) = opt o := by cases o <;> rfl
theorem dimS_no (i : Nat) (q : List Sg) : dimS i q .no = .no := rfl
theorem dimS_ro (i : Nat) (q : List Sg) (t : T) : dimS i q (.ro t) = .ro t := rfl
theorem dimS_al (i r : Nat) (q p : List Sg) : dimS i q (.al r p) = if r = i then .no else .al r p := rfl
theorem dimS_opt (i : Nat) (q : List Sg) (o : Option PyData) : dimS i q (opt o) = opt o := by cases o <;> rfl
/-- slot by slot -/
def atS : Env → Nat → Option Sl
  | [], _ => none
  | a :: _, 0 => some a
  | _ :: r, n + 1 => atS r n
theorem atS_eq : ∀ (e : Env) (n : Nat), e[n]? = atS e n
  | [], _ => by simp [atS]
  | _ :: _, 0 => by simp [atS]
  | _ :: r, n + 1 => by simp [atS, atS_eq r n]
theorem setT_eq (env : Env) (i : Nat) (t : T) : setT env i t = match atS env i with
    | some s => if canS s = true then some (setV env i (.own t)) else none
    | none => none := by
  unfold setT
  rw [atS_eq]
  cases atS env i with
  | none => rfl
  | some s => cases s <;> rfl

/-! ### statements -/
def St (G : Gl) (hit : Str → Str → Bool) (b : S) (env : Env) (Q : Fl → Env → Prop) (X : XQ) : Prop := (evS G hit b env).wp Q X
def seqK (G : Gl) (hit : Str → Str → Bool) (b : S) (Q : Fl → Env → Prop) (X : XQ) : Fl → Env → Prop := fun f e => match f with
  | .nx => St G hit b e Q X
  | .ret t => Q (.ret t) e
  | .bk => Q .bk e
  | .ct => Q .ct e
/-- the same, not opened before it is reached -/
def StB (G : Gl) (hit : Str → Str → Bool) (b : S) (env : Env) (Q : Fl → Env → Prop) (X : XQ) : Prop := St G hit b env Q X
section
variable {G : Gl} {hit : Str → Str → Bool} {env : Env} {Q : Fl → Env → Prop} {X : XQ}
theorem StB_go {b : S} (h : St G hit b env Q X) : StB G hit b env Q X := h
theorem seqK_nx {b : S} {e : Env} : seqK G hit b Q X .nx e = StB G hit b e Q X := rfl
theorem seqK_ret {b : S} {e : Env} {t : T} : seqK G hit b Q X (.ret t) e = Q (.ret t) e := rfl
theorem seqK_bk {b : S} {e : Env} : seqK G hit b Q X .bk e = Q .bk e := rfl
theorem seqK_ct {b : S} {e : Env} : seqK G hit b Q X .ct e = Q .ct e := rfl
theorem st_skip : St G hit .skip env Q X = Q .nx env := rfl
theorem st_pss : St G hit .pss env Q X = Q .nx env := rfl
theorem st_brk : St G hit .brk env Q X = Q .bk env := rfl
theorem st_cont : St G hit .cont env Q X = Q .ct env := rfl
theorem st_retN : St G hit .retN env Q X = Q (.ret (.fz .none)) env := rfl
theorem st_seq {a b : S} : St G hit (.seq a b) env Q X = St G hit a env (seqK G hit b Q X) X := by
  show ((evS G hit a env).bind _).wp Q X = _
  rw [wp_bind]
  unfold St
  congr 1
  funext f e
  cases f <;> rfl
theorem st_seq_skip {a : S} (h : Q = fun f e => Q f e) : St G hit (.seq a .skip) env Q X = St G hit a env (seqK G hit .skip Q X) X := st_seq
theorem st_ret {o : E} : St G hit (.ret o) env Q X = (evO G o env).wp (fun t e => Q (.ret t) e) X := by
  show ((evO G o env).bind _).wp Q X = _
  rw [wp_bind]; rfl
theorem st_ex {o : E} : St G hit (.ex o) env Q X = (evE G o env).wp (fun _ e => Q .nx e) X := by
  show ((evE G o env).bind _).wp Q X = _
  rw [wp_bind]; rfl
theorem st_asg {i : Nat} {o : E} : St G hit (.asg i o) env Q X = (evO G o env).wp (fun t e => ∃ e', setT e i t = some e' ∧ Q .nx e') X := by
  show ((evO G o env).bind _).wp Q X = _
  rw [wp_bind]
  congr 1
  funext t e
  rw [wp_ofO]
  cases setT e i t <;> simp
theorem st_asgT {tg o : E} : St G hit (.asgT tg o) env Q X = (evE G o env).wp (fun d e => ∃ e', bindT tg d e = some e' ∧ Q .nx e') X := by
  show ((evE G o env).bind _).wp Q X = _
  rw [wp_bind]
  congr 1
  funext t e
  rw [wp_ofO]
  cases bindT tg t e <;> simp
theorem st_iff {c : E} {a b : S} : St G hit (.iff c a b) env Q X = (evT G c env).wp (fun k e => if k = true then StB G hit a e Q X else StB G hit b e Q X) X := by
  show ((evT G c env).bind _).wp Q X = _
  rw [wp_bind]
  congr 1
  funext k e
  cases k <;> rfl
theorem st_setix {l e o : E} : St G hit (.setix l e o) env Q X = (evO G o env).wp (fun t e0 => (evL G l e0).wp (fun q e1 => late q e = true ∧ (evE G e e1).wp (fun k e2 =>
    ∃ ts, ownP e2 q.1 q.2 = some (.ls ts) ∧ ∃ i, intD k = some i ∧ ∃ j, ixN ts.length i = some j ∧ ∃ e3, writeP e2 q.1 q.2 (.ls (ts.set j t)) = some e3 ∧ Q .nx e3) X) X) X := by
  show ((evO G o env).bind _).wp Q X = _
  rw [wp_bind]
  congr 1
  funext t e0
  rw [wp_bind]
  congr 1
  funext q e1
  cases hq : late q e with
  | false => simp [wp_bad]
  | true =>
    rw [if_neg (by decide), wp_bind]
    simp only [true_and]
    congr 1
    funext k e2
    cases h1 : ownP e2 q.1 q.2 with
    | none => simp [wp_bad]
    | some t1 => cases t1 with
      | ls ts =>
        cases h2 : intD k with
        | none => simp [wp_bad]
        | some i =>
          cases h3 : ixN ts.length i with
          | none => simp [wp_bad, h3]
          | some j =>
            simp only [h3, wp_ofO, Option.some.injEq, T.ls.injEq, exists_eq_left']
            cases h4 : writeP e2 q.1 q.2 (.ls (ts.set j t)) <;> simp [h4]
      | _ => simp [wp_bad]

/-! ### loops -/
theorem forL_wp {α : Type} {enc : α → PyData} {xs : List α} {b : PyData → Env → Res Fl} (I : List α → Env → Prop) {Q : Fl → Env → Prop} {X : XQ}
    (step : ∀ pre x post e, xs = pre ++ x :: post → I pre e → (b (enc x) e).wp (fun f e2 => match f with
      | .nx => I (pre ++ [x]) e2
      | .ct => I (pre ++ [x]) e2
      | .bk => Q .nx e2
      | .ret t => Q (.ret t) e2) X) (fin : ∀ e, I xs e → Q .nx e) :
    ∀ (post pre : List α) (e : Env), xs = pre ++ post → I pre e → (forL b (post.map enc) e).wp Q X
  | [], pre, e, h, i => by
    rw [List.append_nil] at h
    subst h
    exact fin e i
  | x :: post, pre, e, h, i => by
    have s := step pre x post e h i
    show ((b (enc x) e).bind _).wp Q X
    rw [wp_bind]
    refine wp_mono s (fun f e2 q => ?_) fun _ _ y => y
    have on : I (pre ++ [x]) e2 → (forL b (post.map enc) e2).wp Q X := fun i2 => forL_wp I step fin post (pre ++ [x]) e2 (by rw [h]; simp) i2
    cases f with
    | nx => exact on q
    | ct => exact on q
    | bk => exact q
    | ret t => exact q
theorem st_fo {tg it : E} {b : S} {α : Type} (enc : α → PyData) (xs : List α) (I : List α → Env → Prop) 
    (hi : (evI G it env).wp (fun items e => items = xs.map enc ∧ I [] (lk it e)) X)
    (step : ∀ pre x post e, xs = pre ++ x :: post → I pre e → ∃ e1, bindT tg (enc x) e = some e1 ∧ St G hit b e1 (fun f e2 => match f with
      | .nx => I (pre ++ [x]) e2
      | .ct => I (pre ++ [x]) e2
      | .bk => Q .nx (unlk it e2)
      | .ret t => Q (.ret t) (unlk it e2)) fun y e2 => X y (unlk it e2)) (fin : ∀ e, I xs e → Q .nx (unlk it e)) : St G hit (.fo tg it b) env Q X := by
  show ((evI G it env).bind _).wp Q X
  rw [wp_bind]
  refine wp_mono hi ?_ fun _ _ y => y
  rintro items e ⟨rfl, i0⟩
  have h := forL_wp (b := turnF (evS G hit b) tg) (xs := xs) (enc := enc) (Q := fun f e2 => Q f (unlk it e2)) (X := fun y e2 => X y (unlk it e2)) I (fun pre x post e hx i => by
    obtain ⟨e1, h1, h2⟩ := step pre x post e hx i
    unfold turnF
    rw [h1]
    exact h2) fin xs [] (lk it e) rfl i0
  show (match forL (turnF (evS G hit b) tg) (xs.map enc) (lk it e) with
    | .ok f env2 => (.ok f (unlk it env2) : Res Fl)
    | .raise x env2 => .raise x (unlk it env2)
    | .bad => .bad).wp Q X
  cases hr : forL (turnF (evS G hit b) tg) (xs.map enc) (lk it e) <;> rw [hr] at h <;> exact h
theorem whileL_wp {c : Env → Res Bool} {b : Env → Res Fl} (I : Nat → Env → Prop)
    (step : ∀ n e, I n e → (c e).wp (fun k e1 => if k = true then (b e1).wp (fun f e2 => match f with
      | .nx => ∃ m, m < n ∧ I m e2
      | .ct => ∃ m, m < n ∧ I m e2
      | .bk => Q .nx e2
      | .ret t => Q (.ret t) e2) X else Q .nx e1) X) : ∀ (k n : Nat) (e : Env), n < k → I n e → (whileL c b k e).wp Q X
  | 0, _, _, h, _ => absurd h (by omega)
  | k + 1, n, e, h, i => by
    show ((c e).bind _).wp Q X
    rw [wp_bind]
    refine wp_mono (step n e i) (fun a e1 q => ?_) fun _ _ y => y
    cases a with
    | false => exact q
    | true =>
      simp only [if_true] at q ⊢
      rw [wp_bind]
      refine wp_mono q (fun f e2 q2 => ?_) fun _ _ y => y
      cases f with
      | nx => obtain ⟨m, h1, h2⟩ := q2; exact whileL_wp I step k m e2 (by omega) h2
      | ct => obtain ⟨m, h1, h2⟩ := q2; exact whileL_wp I step k m e2 (by omega) h2
      | bk => exact q2
      | ret t => exact q2
theorem st_whil {c : E} {b : S} (I : Nat → Env → Prop) (n : Nat) (hn : n < FUEL) (i0 : I n env)
    (step : ∀ n e, I n e → (evT G c e).wp (fun k e1 => if k = true then St G hit b e1 (fun f e2 => match f with
      | .nx => ∃ m, m < n ∧ I m e2
      | .ct => ∃ m, m < n ∧ I m e2
      | .bk => Q .nx e2
      | .ret t => Q (.ret t) e2) X else Q .nx e1) X) : St G hit (.whil c b) env Q X := whileL_wp I step FUEL n env hn i0
end
/-! ### comprehensions -/
theorem compL_wp {α β : Type} {enc : α → PyData} {xs : List α} {f : PyData → Env → Res (Option β)} (I : List α → List β → Env → Prop) 
    (step : ∀ pre x post acc e, xs = pre ++ x :: post → I pre acc e → (f (enc x) e).wp (fun y e2 => I (pre ++ [x]) (acc ++ y.toList) e2) noX) :
    ∀ (post pre : List α) (acc : List β) (e : Env), xs = pre ++ post → I pre acc e → (compL f (post.map enc) e).wp (fun ys e2 => I xs (acc ++ ys) e2) noX
  | [], pre, acc, e, h, i => by
    rw [List.append_nil] at h
    subst h
    show I _ (acc ++ []) e
    rw [List.append_nil]
    exact i
  | x :: post, pre, acc, e, h, i => by
    show ((f (enc x) e).bind _).wp _ _
    rw [wp_bind]
    refine wp_mono (step pre x post acc e h i) (fun y e2 q => ?_) fun _ _ y => y
    rw [wp_bind]
    refine wp_mono (compL_wp I step post (pre ++ [x]) (acc ++ y.toList) e2 (by rw [h]; simp) q) (fun ys e3 q3 => ?_) fun _ _ y => y
    show I xs (acc ++ _) e3
    cases y with
    | none => simpa using q3
    | some d => simpa using q3
theorem wp_comp {G : Gl} {env : Env} {own : List (Str × Nat)} {elt tg it ifs : E} {Q : T → Env → Prop} {X : XQ} {α : Type} (enc : α → PyData) (xs : List α) (I : List α → List T → Env → Prop)
    (hi : (evI G it env).wp (fun items e => items = xs.map enc ∧ (wipeE (lk it e) own).isSome = true ∧ I [] [] (lk it e) ∧
      ∀ ys e3, I xs ys e3 → ∃ e4, wipeE e3 own = some e4 ∧ ys.length ≤ sizeLine ∧ Q (.ls ys) (unlk it (backE (lk it e) e4 own))) X)
    (step : ∀ pre x post acc e, xs = pre ++ x :: post → I pre acc e → ∃ e0, wipeE e own = some e0 ∧ ∃ e1, bindT tg (enc x) e0 = some e1 ∧
      (evT G ifs e1).wp (fun k e2 => if k = true then (evO G elt e2).wp (fun d e3 => I (pre ++ [x]) (acc ++ [d]) e3) noX else I (pre ++ [x]) acc e2) noX) :
    (evO G (.ocomp own elt tg it ifs) env).wp Q X := by
  show ((evI G it env).bind _).wp Q X
  rw [wp_bind]
  refine wp_mono hi ?_ fun _ _ y => y
  rintro items e ⟨rfl, hw, i0, fin⟩
  rw [wp_bind]
  refine wp_mono (calm_wp (compL_wp I (fun pre x post acc e hx i => ?_) xs [] [] (lk it e) rfl i0)) (fun ys e3 i3 => ?_) fun _ _ y => y
  · obtain ⟨e0, h0, e1, h1, h2⟩ := step pre x post acc e hx i
    simp only [h0, h1]
    rw [wp_bind]
    refine wp_mono h2 (fun k e2 q => ?_) fun _ _ y => y
    cases k with
    | false => simpa [wp_ok] using q
    | true =>
      simp only [if_true] at q ⊢
      rw [wp_bind]
      exact wp_mono q (fun d e3 q3 => by simpa [wp_ok] using q3) fun _ _ y => y
  · rw [List.nil_append] at i3
    obtain ⟨e4, h4, hl, q⟩ := fin ys e3 i3
    obtain ⟨e5, h5⟩ := Option.isSome_iff_exists.mp hw
    simp only [h4, h5, if_pos hl]
    exact q

/-! ### calls -/
theorem callF_wp {F : Fn} {as : List AV} {env : Env} {Q : T → Env → Prop} {X : XQ} : (callF (some F) as env).wp Q X = ((modeOk F.modes as && rootsOk as) = true ∧ ∃ ts, treesOf env as = some ts ∧
    (F.run ts).wp (fun r ts' => ∃ e, backA env as ts' = some e ∧ Q r e) fun x ts' => ∃ e, backA env as ts' = some e ∧ X x e) := by
  unfold callF
  simp only
  cases h1 : (modeOk F.modes as && rootsOk as) with
  | false => simp [wp_bad]
  | true =>
    simp only [if_true, true_and]
    cases h2 : treesOf env as with
    | none => simp [wp_bad]
    | some ts =>
      simp only [Option.some.injEq, exists_eq_left']
      cases h3 : F.run ts with
      | ok r ts' =>
        simp only [FR.wp]
        cases h4 : backA env as ts' <;> simp [wp_bad, wp_ok]
      | raise x ts' =>
        simp only [FR.wp]
        cases h4 : backA env as ts' <;> simp [wp_bad, wp_raise]
      | bad => simp only [FR.wp, wp_bad]
def retQ (ms : List Mode) (ts : List T) (Q : T → List T → Prop) : Fl → Env → Prop := fun f e => match f with
  | .ret t => ∃ r, outT e 0 ms ts = some r ∧ Q t r
  | .nx => ∃ r, outT e 0 ms ts = some r ∧ Q (.fz .none) r
  | _ => False
def retX (ms : List Mode) (ts : List T) (X : Exn → List T → Prop) : XQ := fun x e => ∃ r, outT e 0 ms ts = some r ∧ X x r
section
variable {ms : List Mode} {ts : List T} {Q : T → List T → Prop} {X : Exn → List T → Prop} {e : Env}
theorem retQ_ret {t : T} : retQ ms ts Q (.ret t) e = ∃ r, outT e 0 ms ts = some r ∧ Q t r := rfl
theorem retQ_nx : retQ ms ts Q .nx e = ∃ r, outT e 0 ms ts = some r ∧ Q (.fz .none) r := rfl
theorem retX_eq {x : Exn} : retX ms ts X x e = ∃ r, outT e 0 ms ts = some r ∧ X x r := rfl
theorem run_wp {G : Gl} {hit : Str → Str → Bool} {D : Dfn} (h : rwN D.modes ≤ 1) (w : St G hit D.b (startE D ts) (retQ D.modes ts Q) (retX D.modes ts X)) : ((fnD G hit D).run ts).wp Q X := by
  show (if rwN D.modes ≤ 1 then outR D.modes ts (evS G hit D.b (startE D ts)) else .bad).wp Q X
  rw [if_pos h]
  unfold St at w
  cases hr : evS G hit D.b (startE D ts) with
  | bad => rw [hr] at w; exact w.elim
  | raise x e =>
    rw [hr] at w
    obtain ⟨r, h1, h2⟩ := w
    simp only [outR, h1]
    exact h2
  | ok f e =>
    rw [hr] at w
    cases f with
    | nx =>
      obtain ⟨r, h1, h2⟩ := w
      simp only [outR, h1]
      exact h2
    | ret t =>
      obtain ⟨r, h1, h2⟩ := w
      simp only [outR, h1]
      exact h2
    | bk => exact w.elim
    | ct => exact w.elim
end
end Mp

end
section
set_option Elab.async false
set_option linter.all false
set_option maxRecDepth 100000
set_option autoImplicit false
/-! MiniPy: facts about data. -/
namespace Mp
open PySem PySem.Spec PyProof.Rows L2 TL

theorem ofString_inj {a b : String} (h : Str.ofString a = Str.ofString b) : a = b := by
  rw [Str.ofString_eq_toList, Str.ofString_eq_toList] at h
  have h1 : (a.toList.map Char.toNat) = (b.toList.map Char.toNat) := by
    have := congrArg (fun x : Str => x.cps.toList) h
    simpa using this
  have h2 : a.toList = b.toList := by
    have inj : ∀ (l m : List Char), l.map Char.toNat = m.map Char.toNat → l = m := by
      intro l
      induction l with
      | nil => intro m h; cases m with
        | nil => rfl
        | cons _ _ => simp at h
      | cons c l ih => intro m h; cases m with
        | nil => simp at h
        | cons d m =>
          simp only [List.map_cons, List.cons.injEq] at h
          have : c = d := by
            have h3 : c.val.toNat = d.val.toNat := h.1
            have h4 : c.val = d.val := UInt32.toNat_inj.mp h3
            exact Char.ext h4
          rw [this, ih m h.2]
    exact inj _ _ h1
  exact String.toList_inj.mp h2
theorem ofStr_eq (a b : String) : (Str.ofString a = Str.ofString b) = (a = b) := propext ⟨ofString_inj, fun h => by rw [h]⟩
theorem strOk_ofString (s : String) : PyData.strOk (Str.ofString s) = true := by
  rw [Str.ofString_eq_toList]
  unfold PyData.strOk
  rw [← Array.all_toList, List.all_eq_true]
  intro c hc
  simp only [List.mem_map] at hc
  obtain ⟨d, _, rfl⟩ := hc
  refine decide_eq_true ?_
  have := d.valid
  have h2 : d.val.toNat < 0x110000 := by
    rcases this with h | h
    · omega
    · omega
  exact h2
theorem eqv_str (x y : Str) : PyData.eqv (.str x) (.str y) = decide (x = y) := by
  unfold PyData.eqv
  exact Bool.beq_eq_decide_eq x y
theorem r_eqSS (x y : Str) : opCmp .eq (.str x) (.str y) = some (decide (x = y)) := rfl
theorem r_neSS (x y : Str) : opCmp .ne (.str x) (.str y) = some (!decide (x = y)) := rfl
/-! ### how long a repr is, at most -/
theorem textFrom_le : ∀ (ts : List Str) (k : Nat) (acc : Str), (textFrom k acc ts).length ≤ acc.length + (ts.map fun t => t.length + 2).sum
  | [], k, acc => by show acc.length ≤ _; simp
  | t :: r, k, acc => by
    have h := textFrom_le r (k + 1) (acc ++ (if k > 0 then ", " else "" : String) ++ t)
    have e : (acc ++ (if k > 0 then ", " else "" : String) ++ t).length = acc.length + (if k > 0 then 2 else 0) + t.length := by
      rw [strLen_append, strLen_append]
      split <;> rfl
    rw [e] at h
    show (textFrom (k + 1) (acc ++ (if k > 0 then ", " else "" : String) ++ t) r).length ≤ _
    generalize (textFrom (k + 1) (acc ++ (if k > 0 then ", " else "" : String) ++ t) r).length = z at h ⊢
    simp only [List.map_cons, List.sum_cons]
    have h3 : (if k > 0 then 2 else 0 : Nat) ≤ 2 := by split <;> decide
    omega
theorem listText_le (ts : List Str) : (listText ts).length ≤ (ts.map fun t => t.length + 2).sum + 2 := by
  unfold listText
  rw [strLen_append]
  have := textFrom_le ts 0 ("[" : String)
  have e1 : ((("[" : String) : Str)).length = 1 := rfl
  have e2 : ((("]" : String) : Str)).length = 1 := rfl
  rw [e1] at this
  rw [e2]
  omega
theorem tupleText_le (ts : List Str) : (tupleText ts).length ≤ (ts.map fun t => t.length + 2).sum + 3 := by
  unfold tupleText
  rw [strLen_append, strLen_append]
  have e1 : ((("(" : String) : Str)).length = 1 := rfl
  have e3 : (((if ts.length == 1 then ",)" else ")" : String) : Str)).length ≤ 2 := by split <;> decide
  have h : (Str.join ", " ts).length ≤ (ts.map fun t => t.length + 2).sum := by
    cases ts with
    | nil => show (Str.empty).length ≤ _; exact Nat.zero_le _
    | cons t r =>
      have := join_length_add (t :: r) (by simp)
      unfold piled at this
      omega
  rw [e1]
  omega
def szI (i : Int) : Nat := (Str.ofString (toString i)).length
mutual
def sz : PyData → Nat
  | .none => 4
  | .bool _ => 5
  | .int i => szI i
  | .str x => 10 * x.length + 2
  | .list xs => szs xs + 2
  | .tuple xs => szs xs + 3
  | .dict _ => 0
def szs : List PyData → Nat
  | [] => 0
  | x :: xs => sz x + 2 + szs xs
end
mutual
theorem shown_le : ∀ (d : PyData), d.canLay0 = true → d.shown.length ≤ sz d
  | .none, _ => by simp only [PyData.shown, sz]; decide
  | .bool b, _ => by simp only [PyData.shown, sz]; cases b <;> decide
  | .int i, _ => by simp only [PyData.shown, sz]; exact Nat.le_refl _
  | .str x, h => by
    simp only [PyData.shown, sz]
    refine StrLaws.reprText_len x fun c hc => ?_
    simp only [PyData.canLay0, PyData.strOk] at h
    rw [← Array.all_toList, List.all_eq_true] at h
    have := of_decide_eq_true (h c hc)
    exact Nat.lt_trans this (by decide)
  | .list xs, h => by
    simp only [PyData.shown, sz]
    have h1 := listText_le (PyData.shownAll xs)
    have h2 := shownAll_le xs (by simpa only [PyData.canLay0] using h)
    omega
  | .tuple xs, h => by
    simp only [PyData.shown, sz]
    have h1 := tupleText_le (PyData.shownAll xs)
    have h2 := shownAll_le xs (by simpa only [PyData.canLay0] using h)
    omega
  | .dict _, h => by simp [PyData.canLay0] at h
theorem shownAll_le : ∀ (xs : List PyData), PyData.canLayAll0 xs = true → ((PyData.shownAll xs).map fun t => t.length + 2).sum ≤ szs xs
  | [], _ => by simp [PyData.shownAll, szs]
  | x :: xs, h => by
    simp only [PyData.canLayAll0, Bool.and_eq_true] at h
    have h1 := shown_le x h.1
    have h2 := shownAll_le xs h.2
    simp only [PyData.shownAll, szs, List.map_cons, List.sum_cons]
    omega
end
/-- data that may be compared and shown; how deep it is; how long its repr is -/
structure Nc (n m : Nat) (d : PyData) : Prop where
  lay : d.canLay0 = true
  show1 : d.showable = true
  dep : d.depth ≤ n
  len : sz d ≤ m
theorem Nc.shaped {n m : Nat} {d : PyData} (h : Nc n m d) (hn : n ≤ 64) : SeqAt.shaped d = true := by
  unfold SeqAt.shaped
  rw [h.lay, Bool.true_and]
  exact decide_eq_true (Nat.le_trans h.dep hn)
theorem r_repr {n m : Nat} {d : PyData} (h : Nc n m d) (hn : n ≤ 64) (hm : m ≤ sizeLine) : opBi .repr [d] = some (.str d.shown) := by
  show (if (SeqAt.shaped d && d.showable && decide (d.shown.length ≤ sizeLine)) = true then some (PyData.str d.shown) else none) = _
  rw [if_pos]
  rw [h.shaped hn, h.show1, Bool.true_and, Bool.true_and]
  exact decide_eq_true (Nat.le_trans (shown_le d h.lay) (Nat.le_trans h.len hm))
theorem Nc.mono {n m n' m' : Nat} {d : PyData} (h : Nc n m d) (hn : n ≤ n') (hm : m ≤ m') : Nc n' m' d := ⟨h.lay, h.show1, Nat.le_trans h.dep hn, Nat.le_trans h.len hm⟩
theorem nice_none : Nc 0 4 .none := ⟨rfl, by simp only [PyData.showable], by simp [PyData.depth], by simp [sz]⟩
theorem nice_bool (b : Bool) : Nc 0 5 (.bool b) := ⟨rfl, by simp only [PyData.showable], by simp [PyData.depth], by simp [sz]⟩
theorem nice_str {x : Str} {k : Nat} (h : PyData.strOk x = true) (hk : x.length ≤ k) : Nc 0 (10 * k + 2) (PyData.str x) := ⟨by simpa only [PyData.canLay0] using h, by simp only [PyData.showable], by simp only [PyData.depth]; exact Nat.le_refl _, by simp only [sz]; omega⟩
theorem szI_nat {n k : Nat} (hk : 0 < k) (h : n < 10 ^ k) : szI (n : Int) ≤ k := by
  unfold szI
  rw [len_tl, tl_num]
  exact numL_len hk h
theorem szI_neg {n k : Nat} (hk : 0 < k) (h : n + 1 < 10 ^ k) : szI (Int.negSucc n) ≤ k + 1 := by
  have e : (toString (Int.negSucc n) : String) = "-" ++ toString (n + 1) := rfl
  unfold szI
  rw [len_tl, tl_ofString, e, String.toList_append, List.map_append, List.length_append]
  have h2 := numL_len hk h
  rw [← tl_num, tl_ofString] at h2
  have e3 : (toString ((n + 1 : Nat) : Int) : String) = toString (n + 1) := rfl
  rw [e3] at h2
  have e4 : (("-" : String).toList.map Char.toNat).length = 1 := rfl
  omega
theorem szI_le {i : Int} {k : Nat} (hk : 0 < k) (h : i.natAbs < 10 ^ k) : szI i ≤ k + 1 := by
  cases i with
  | ofNat n => exact Nat.le_succ_of_le (szI_nat hk h)
  | negSucc n => exact szI_neg hk h
theorem log2_small {n k : Nat} (h : n < 2 ^ k) (hk : 0 < k) : n.log2 < k := by
  by_cases h0 : n = 0
  · subst h0; simpa using hk
  · exact (Nat.log2_lt h0).mpr h
theorem nice_int {i : Int} (h : i.natAbs < 1000000000) : Nc 0 10 (.int i) := ⟨rfl, by
  simp only [PyData.showable]
  have h2 : i.natAbs.log2 < 30 := log2_small (Nat.lt_of_lt_of_le h (by decide)) (by decide)
  exact decide_eq_true (by omega), by simp [PyData.depth], by simp only [sz]; exact szI_le (k := 9) (by decide) (Nat.lt_of_lt_of_le h (by decide))⟩
structure NcL (n m : Nat) (ds : List PyData) : Prop where
  lay : PyData.canLayAll0 ds = true
  show1 : PyData.showableAll ds = true
  dep : PyData.depthAll ds ≤ n
  len : szs ds ≤ m
theorem nices_nil {n : Nat} : NcL n 0 [] := ⟨rfl, by simp only [PyData.showableAll], by simp [PyData.depthAll], by simp [szs]⟩
theorem nices_cons {n m k : Nat} {d : PyData} {ds : List PyData} (h : Nc n m d) (t : NcL n k ds) : NcL n (m + 2 + k) (d :: ds) :=
  ⟨by simp [PyData.canLayAll0, h.lay, t.lay], by simp [PyData.showableAll, h.show1, t.show1], by simp only [PyData.depthAll]; exact Nat.max_le.mpr ⟨h.dep, t.dep⟩, by simp only [szs]; have := h.len; have := t.len; omega⟩
theorem nices_app {n m k : Nat} {ds es : List PyData} (h : NcL n m ds) (t : NcL n k es) : NcL n (m + k) (ds ++ es) := by
  induction ds generalizing m with
  | nil => exact ⟨t.lay, t.show1, t.dep, Nat.le_trans t.len (by omega)⟩
  | cons d ds ih =>
    obtain ⟨a, b, c, e⟩ := h
    simp only [PyData.canLayAll0, Bool.and_eq_true] at a
    simp only [PyData.showableAll, Bool.and_eq_true] at b
    simp only [PyData.depthAll] at c
    simp only [szs] at e
    have := ih (m := m - (sz d + 2)) ⟨a.2, b.2, by omega, by omega⟩
    refine ⟨by simp [PyData.canLayAll0, a.1, this.lay], by simp [PyData.showableAll, b.1, this.show1], by simp only [List.cons_append, PyData.depthAll]; exact Nat.max_le.mpr ⟨by omega, this.dep⟩, by simp only [List.cons_append, szs]; have := this.len; omega⟩
theorem nices_all {n m : Nat} : ∀ {ds : List PyData}, (∀ d ∈ ds, Nc n m d) → NcL n (ds.length * (m + 2)) ds
  | [], _ => by simpa using nices_nil
  | d :: ds, h => by
    have := nices_cons (h d List.mem_cons_self) (nices_all fun e he => h e (List.mem_cons_of_mem _ he))
    refine ⟨this.lay, this.show1, this.dep, Nat.le_trans this.len ?_⟩
    rw [List.length_cons, Nat.add_mul, Nat.one_mul]; omega
theorem NcL.mono {n m n' m' : Nat} {d : List PyData} (h : NcL n m d) (hn : n ≤ n') (hm : m ≤ m') : NcL n' m' d := ⟨h.lay, h.show1, Nat.le_trans h.dep hn, Nat.le_trans h.len hm⟩
theorem nices_map {α : Type} {n m k : Nat} {f : α → PyData} {l : List α} (h : ∀ x ∈ l, Nc n m (f x)) (hk : l.length ≤ k) : NcL n (k * (m + 2)) (l.map f) := by
  have := nices_all (n := n) (m := m) (ds := l.map f) fun d hd => by
    obtain ⟨x, hx, rfl⟩ := List.mem_map.mp hd
    exact h x hx
  refine this.mono (Nat.le_refl _) ?_
  rw [List.length_map]
  exact Nat.mul_le_mul_right _ hk
theorem nice_list {n m : Nat} {ds : List PyData} (h : NcL n m ds) : Nc (n + 1) (m + 2) (.list ds) := ⟨by simpa only [PyData.canLay0] using h.lay, by simpa only [PyData.showable] using h.show1, by simp only [PyData.depth]; have := h.dep; omega, by simp only [sz]; have := h.len; omega⟩
theorem nice_tuple {n m : Nat} {ds : List PyData} (h : NcL n m ds) : Nc (n + 1) (m + 3) (.tuple ds) := ⟨by simpa only [PyData.canLay0] using h.lay, by simpa only [PyData.showable] using h.show1, by simp only [PyData.depth]; have := h.dep; omega, by simp only [sz]; have := h.len; omega⟩
/-! equal where it is the same -/
mutual
theorem eqv_refl : ∀ d : PyData, d.canLay0 = true → PyData.eqv d d = true
  | .none, _ => rfl
  | .bool b, _ => by unfold PyData.eqv; exact beq_self_eq_true b
  | .int i, _ => by unfold PyData.eqv; exact beq_self_eq_true i
  | .str x, _ => by unfold PyData.eqv; exact beq_self_eq_true x
  | .list xs, h => by
    unfold PyData.eqv
    exact eqvAll_refl xs (by simpa only [PyData.canLay0] using h)
  | .tuple xs, h => by
    unfold PyData.eqv
    exact eqvAll_refl xs (by simpa only [PyData.canLay0] using h)
  | .dict _, h => by simp [PyData.canLay0] at h
theorem eqvAll_refl : ∀ xs : List PyData, PyData.canLayAll0 xs = true → PyData.eqvAll xs xs = true
  | [], _ => rfl
  | x :: xs, h => by
    simp only [PyData.canLayAll0, Bool.and_eq_true] at h
    simp only [PyData.eqvAll, eqv_refl x h.1, eqvAll_refl xs h.2, Bool.and_self]
end
theorem strOk_of {x : Str} (h : ∀ c ∈ tl x, c < 128) : PyData.strOk x = true := by
  unfold PyData.strOk
  rw [← Array.all_toList, List.all_eq_true]
  intro c hc
  exact decide_eq_true (Nat.lt_trans (h c hc) (by decide))
theorem strOk_all {x : Str} (h : PyData.strOk x = true) : ∀ c ∈ tl x, c < 0x110000 := by
  unfold PyData.strOk at h
  rw [← Array.all_toList, List.all_eq_true] at h
  intro c hc
  exact of_decide_eq_true (h c hc)
theorem strOk_iff {x : Str} : PyData.strOk x = true ↔ ∀ c ∈ tl x, c < 0x110000 := ⟨strOk_all, fun h => by
  unfold PyData.strOk
  rw [← Array.all_toList, List.all_eq_true]
  intro c hc
  exact decide_eq_true (h c hc)⟩
theorem datas_map : ∀ ds : List PyData, T.datas (ds.map T.fz) = some ds
  | [] => rfl
  | d :: ds => by simp only [List.map_cons, T.datas, T.data, datas_map ds]
theorem data_ls (ds : List PyData) : T.data (.ls (ds.map T.fz)) = some (.list ds) := by simp only [T.data, datas_map, Option.map_some]
theorem data_fz (d : PyData) : T.data (.fz d) = some d := by simp only [T.data]
theorem strsOf_map : ∀ xs : List Str, strsOf (xs.map PyData.str) = some xs
  | [] => rfl
  | x :: xs => by simp only [List.map_cons, strsOf, strsOf_map xs, Option.map_some]
theorem intsOf_map : ∀ xs : List Int, intsOf (xs.map PyData.int) = some xs
  | [] => rfl
  | x :: xs => by simp only [List.map_cons, intsOf, intsOf_map xs, Option.map_some]
theorem boolsOf_map : ∀ xs : List Bool, boolsOf (xs.map PyData.bool) = some xs
  | [] => rfl
  | x :: xs => by simp only [List.map_cons, boolsOf, boolsOf_map xs, Option.map_some]
end Mp

end
section
set_option Elab.async false
set_option linter.all false
set_option maxRecDepth 100000
set_option autoImplicit false
/-! MiniPy: one rule for each construct. -/
namespace Mp
open PySem PySem.Spec PyProof.Rows L2 TL

section
variable {G : Gl} {env : Env} {X : XQ} {Q : PyData → Env → Prop}
def fzS : Option Sl → Option PyData
  | some (.own (.fz d)) => some d
  | some (.ro (.fz d)) => some d
  | _ => none
theorem fzS_own (d : PyData) : fzS (some (.own (.fz d))) = some d := rfl
theorem fzS_ro (d : PyData) : fzS (some (.ro (.fz d))) = some d := rfl
def plS1 : Option Sl → Nat → Option (Nat × List Sg)
  | some (.own _), i => some (i, [])
  | some (.ro _), i => some (i, [])
  | some (.al r p), _ => some (r, p)
  | _, _ => none
theorem plS1_own (t : T) (i : Nat) : plS1 (some (.own t)) i = some (i, []) := rfl
theorem plS1_ro (t : T) (i : Nat) : plS1 (some (.ro t)) i = some (i, []) := rfl
theorem plS1_al (r : Nat) (p : List Sg) (i : Nat) : plS1 (some (.al r p)) i = some (r, p) := rfl
def rtS : Option Sl → Option T
  | some (.own t) => some t
  | some (.ro t) => some t
  | _ => none
theorem rtS_own (t : T) : rtS (some (.own t)) = some t := rfl
theorem rtS_ro (t : T) : rtS (some (.ro t)) = some t := rfl
def owS : Option Sl → Option T
  | some (.own t) => some t
  | _ => none
theorem owS_own (t : T) : owS (some (.own t)) = some t := rfl
theorem rootT_eq (e : Env) (r : Nat) : rootT e r = rtS (atS e r) := by
  unfold rootT; rw [atS_eq]
  cases atS e r with
  | none => rfl
  | some s => cases s <;> rfl
theorem ownT_eq (e : Env) (r : Nat) : ownT e r = owS (atS e r) := by
  unfold ownT; rw [atS_eq]
  cases atS e r with
  | none => rfl
  | some s => cases s <;> rfl
theorem readP_eq (e : Env) (r : Nat) (p : List Sg) : readP e r p = (rtS (atS e r)).bind fun t => getP t p := by unfold readP; rw [rootT_eq]
theorem ownP_eq (e : Env) (r : Nat) (p : List Sg) : ownP e r p = (owS (atS e r)).bind fun t => getP t p := by unfold ownP; rw [ownT_eq]
theorem getP_nil (t : T) : getP t [] = some t := by unfold getP; rfl
theorem getP_ix (ts : List T) (k : Nat) (p : List Sg) : getP (.ls ts) (.ix k :: p) = (ts[k]?).bind fun u => getP u p := by
  conv => lhs; unfold getP
  simp only [getS]
  cases ts[k]? <;> rfl
theorem getP_fld (c : Str) (fs : List (Str × T)) (f : Str) (p : List Sg) : getP (.ins c fs) (.fld f :: p) = (lookA fs f).bind fun u => getP u p := by
  conv => lhs; unfold getP
  simp only [getS]
  cases lookA fs f <;> rfl
theorem getP_key (fs : List (Key × T)) (f : Key) (p : List Sg) : getP (.dk fs) (.key f :: p) = (lookA fs f).bind fun u => getP u p := by
  conv => lhs; unfold getP
  simp only [getS]
  cases lookA fs f <;> rfl
theorem getP_nk (fs : List (NestedKey × T)) (f : NestedKey) (p : List Sg) : getP (.dn fs) (.nk f :: p) = (lookA fs f).bind fun u => getP u p := by
  conv => lhs; unfold getP
  simp only [getS]
  cases lookA fs f <;> rfl
theorem setP_nil (t x : T) : setP t [] x = some x := by unfold setP; rfl
theorem setP_ix (ts : List T) (k : Nat) (p : List Sg) (x : T) : setP (.ls ts) (.ix k :: p) x = (ts[k]?).bind fun u => (setP u p x).bind fun u' => if k < ts.length then some (.ls (ts.set k u')) else none := by
  conv => lhs; unfold setP
  simp only [getS]
  cases ts[k]? with
  | none => rfl
  | some u =>
    simp only [Option.bind_some]
    cases setP u p x <;> rfl
theorem setP_fld (c : Str) (fs : List (Str × T)) (f : Str) (p : List Sg) (x : T) : setP (.ins c fs) (.fld f :: p) x = (lookA fs f).bind fun u => (setP u p x).bind fun u' => some (.ins c (putA fs f u')) := by
  conv => lhs; unfold setP
  simp only [getS]
  cases h : lookA fs f with
  | none => rfl
  | some u =>
    simp only [Option.bind_some]
    cases setP u p x with
    | none => rfl
    | some u' => simp [setS, h]
theorem setP_key (fs : List (Key × T)) (f : Key) (p : List Sg) (x : T) : setP (.dk fs) (.key f :: p) x = (lookA fs f).bind fun u => (setP u p x).bind fun u' => some (.dk (putA fs f u')) := by
  conv => lhs; unfold setP
  simp only [getS]
  cases h : lookA fs f with
  | none => rfl
  | some u =>
    simp only [Option.bind_some]
    cases setP u p x with
    | none => rfl
    | some u' => simp [setS, h]
theorem setP_nk (fs : List (NestedKey × T)) (f : NestedKey) (p : List Sg) (x : T) : setP (.dn fs) (.nk f :: p) x = (lookA fs f).bind fun u => (setP u p x).bind fun u' => some (.dn (putA fs f u')) := by
  conv => lhs; unfold setP
  simp only [getS]
  cases h : lookA fs f with
  | none => rfl
  | some u =>
    simp only [Option.bind_some]
    cases setP u p x with
    | none => rfl
    | some u' => simp [setS, h]
theorem writeP_eq (e : Env) (r : Nat) (p : List Sg) (x : T) : writeP e r p x = (owS (atS e r)).bind fun t => (setP t p x).bind fun t' => some ((dim e r p).set r (.own t')) := by
  unfold writeP; rw [ownT_eq]
  cases owS (atS e r) with
  | none => rfl
  | some t => simp only [Option.bind_some]; cases setP t p x <;> rfl
theorem dim_eq (e : Env) (r : Nat) (p : List Sg) : dim e r p = e.map (dimS r p) := rfl
theorem setV_eq (e : Env) (i : Nat) (s : Sl) : setV e i s = (e.map (dropAl i)).set i s := rfl
/-! equations on constructors alone -/
theorem late_nil (r : Nat) (e : E) : late (r, []) e = true := rfl
theorem late_cons (r : Nat) (s : Sg) (p : List Sg) (e : E) : late (r, s :: p) e = quiet e := rfl
theorem lateA_val (t : T) (e : E) : lateA (.val t) e = true := rfl
theorem lateA_nil (b : Bool) (r : Nat) (e : E) : lateA (.pth b r []) e = true := rfl
theorem lateA_cons (b : Bool) (r : Nat) (s : Sg) (p : List Sg) (e : E) : lateA (.pth b r (s :: p)) e = quiet e := rfl
theorem tree_val (e : Env) (t : T) : (AV.val t).tree e = some t := rfl
theorem tree_rw (e : Env) (r : Nat) (p : List Sg) : (AV.pth true r p).tree e = ownP e r p := rfl
theorem tree_ro (e : Env) (r : Nat) (p : List Sg) : (AV.pth false r p).tree e = readP e r p := rfl
theorem mok_nil : modeOk [] [] = true := rfl
theorem mok_val (ms : List Mode) (t : T) (as : List AV) : modeOk (.val :: ms) (.val t :: as) = modeOk ms as := rfl
theorem mok_ro (ms : List Mode) (r : Nat) (p : List Sg) (as : List AV) : modeOk (.ro :: ms) (.pth false r p :: as) = modeOk ms as := rfl
theorem mok_rw (ms : List Mode) (r : Nat) (p : List Sg) (as : List AV) : modeOk (.rw :: ms) (.pth true r p :: as) = modeOk ms as := rfl
theorem treesOf_nil (e : Env) : treesOf e [] = some [] := rfl
theorem treesOf_cons (e : Env) (a : AV) (as : List AV) : treesOf e (a :: as) = (a.tree e).bind fun t => (treesOf e as).bind fun ts => some (t :: ts) := by
  show (match a.tree e, treesOf e as with
    | some t, some ts => some (t :: ts)
    | _, _ => none) = _
  cases a.tree e <;> cases treesOf e as <;> rfl
theorem rootsOk_nil : rootsOk [] = true := rfl
theorem rootsOk_val (t : T) (as : List AV) : rootsOk (.val t :: as) = rootsOk as := rfl
def okRw (r : Nat) : AV → Bool
  | .pth rw r' _ => !rw && decide (r' ≠ r)
  | _ => true
def okRo (r : Nat) : AV → Bool
  | .pth true r' _ => decide (r' ≠ r)
  | _ => true
theorem okRw_val (r : Nat) (t : T) : okRw r (.val t) = true := rfl
theorem okRw_pth (r : Nat) (b : Bool) (r' : Nat) (p : List Sg) : okRw r (.pth b r' p) = (!b && decide (r' ≠ r)) := rfl
theorem okRo_val (r : Nat) (t : T) : okRo r (.val t) = true := rfl
theorem okRo_rw (r : Nat) (r' : Nat) (p : List Sg) : okRo r (.pth true r' p) = decide (r' ≠ r) := rfl
theorem okRo_ro (r : Nat) (r' : Nat) (p : List Sg) : okRo r (.pth false r' p) = true := rfl
theorem rootsOk_rw (r : Nat) (p : List Sg) (as : List AV) : rootsOk (.pth true r p :: as) = as.all (okRw r) := by
  show (as.all fun a => match a with | .pth rw r' _ => !rw && decide (r' ≠ r) | _ => true) = _
  congr 1
theorem rootsOk_ro (r : Nat) (p : List Sg) (as : List AV) : rootsOk (.pth false r p :: as) = (as.all (okRo r) && rootsOk as) := by
  show ((as.all fun a => match a with | .pth true r' _ => decide (r' ≠ r) | _ => true) && rootsOk as) = _
  congr 2
theorem backA_nil (e : Env) (ts : List T) : backA e [] ts = some e := by unfold backA; rfl
theorem backA_rw (e : Env) (r : Nat) (p : List Sg) (as : List AV) (t : T) (ts : List T) : backA e (.pth true r p :: as) (t :: ts) = (writeP e r p t).bind fun e' => backA e' as ts := by
  show (match writeP e r p t with
    | some env' => backA env' as ts
    | none => none) = _
  cases writeP e r p t <;> rfl
theorem backA_ro (e : Env) (r : Nat) (p : List Sg) (as : List AV) (t : T) (ts : List T) : backA e (.pth false r p :: as) (t :: ts) = backA e as ts := rfl
theorem backA_val (e : Env) (u : T) (as : List AV) (t : T) (ts : List T) : backA e (.val u :: as) (t :: ts) = backA e as ts := rfl
theorem outT_nil (e : Env) (i : Nat) : outT e i [] [] = some [] := rfl
theorem outT_rw (e : Env) (i : Nat) (ms : List Mode) (t : T) (ts : List T) : outT e i (.rw :: ms) (t :: ts) = (owS (atS e i)).bind fun t' => (outT e (i + 1) ms ts).bind fun r => some (t' :: r) := by
  show (match ownT e i, outT e (i + 1) ms ts with
    | some t, some r => some (t :: r)
    | _, _ => none) = _
  rw [ownT_eq]
  cases owS (atS e i) <;> cases outT e (i + 1) ms ts <;> rfl
theorem outT_val (e : Env) (i : Nat) (ms : List Mode) (t : T) (ts : List T) : outT e i (.val :: ms) (t :: ts) = (outT e (i + 1) ms ts).bind fun r => some (t :: r) := by
  show (outT e (i + 1) ms ts).map _ = _
  cases outT e (i + 1) ms ts <;> rfl
theorem outT_ro (e : Env) (i : Nat) (ms : List Mode) (t : T) (ts : List T) : outT e i (.ro :: ms) (t :: ts) = (outT e (i + 1) ms ts).bind fun r => some (t :: r) := by
  show (outT e (i + 1) ms ts).map _ = _
  cases outT e (i + 1) ms ts <;> rfl
theorem intD_int (i : Int) : intD (.int i) = some i := rfl

/-! ### expressions -/
theorem we_con {d : PyData} : (evE G (.con d) env).wp Q X = Q d env := rfl
theorem we_glob {x : Str} : (evE G (.glob x) env).wp Q X = ∃ d, G.con x = some d ∧ Q d env := wp_ofO
theorem we_rdv {i : Nat} : (evE G (.rd (.lvar i)) env).wp Q X = (∃ q, plS1 (atS env i) i = some q ∧ ∃ t, readP env q.1 q.2 = some t ∧ ∃ d, (match t with | .fz d => some d | _ => none) = some d ∧ Q d env) := by
  show ((evL G (.lvar i) env).bind _).wp Q X = _
  rw [wp_bind]
  have e1 : evL G (.lvar i) env = Res.ofO (plS1 (atS env i) i) env := by
    show (match env[i]? with
    | some (.own _) => .ok (i, []) env
    | some (.ro _) => .ok (i, []) env
    | some (.al r p) => .ok (r, p) env
    | _ => .bad : Res (Nat × List Sg)) = _
    rw [atS_eq]
    cases atS env i with
    | none => rfl
    | some s => cases s <;> rfl
  rw [e1, wp_ofO]
  congr 1
  funext q
  congr 1
  cases readP env q.1 q.2 with
  | none => simp [wp_bad]
  | some t => cases t <;> simp [wp_bad, wp_ok]
end
section
variable {G : Gl} {env : Env} {X : XQ}
theorem wl_var {i : Nat} {Q : Nat × List Sg → Env → Prop} : (evL G (.lvar i) env).wp Q X = ∃ q, plS1 (atS env i) i = some q ∧ Q q env := by
  have e1 : evL G (.lvar i) env = Res.ofO (plS1 (atS env i) i) env := by
    show (match env[i]? with
    | some (.own _) => .ok (i, []) env
    | some (.ro _) => .ok (i, []) env
    | some (.al r p) => .ok (r, p) env
    | _ => .bad : Res (Nat × List Sg)) = _
    rw [atS_eq]
    cases atS env i with
    | none => rfl
    | some s => cases s <;> rfl
  rw [e1, wp_ofO]
/-- a tree's own data -/
def fzT : T → Option PyData
  | .fz d => some d
  | _ => none
theorem fzT_fz (d : PyData) : fzT (.fz d) = some d := rfl
variable {Q : PyData → Env → Prop}
theorem we_rd {l : E} : (evE G (.rd l) env).wp Q X = (evL G l env).wp (fun q e => ∃ t, readP e q.1 q.2 = some t ∧ ∃ d, fzT t = some d ∧ Q d e) X := by
  show ((evL G l env).bind _).wp Q X = _
  rw [wp_bind]
  congr 1
  funext q e
  cases readP e q.1 q.2 with
  | none => simp [wp_bad]
  | some t => cases t <;> simp [wp_bad, wp_ok, fzT]
theorem we_pk {l : E} : (evE G (.pk l) env).wp Q X = (evL G l env).wp (fun q e => ∃ t, readP e q.1 q.2 = some t ∧ ∃ d, peekD t = some d ∧ Q d e) X := by
  show ((evL G l env).bind _).wp Q X = _
  rw [wp_bind]
  congr 1
  funext q e
  cases readP e q.1 q.2 with
  | none => simp [wp_bad]
  | some t => simp [wp_ofO]
theorem peekD_fz (d : PyData) : peekD (.fz d) = some d := rfl
theorem peekD_ls (ds : List PyData) : peekD (.ls (ds.map T.fz)) = some (.list ds) := by simp [peekD]
theorem we_fz {i : Nat} : (evE G (.fz i) env).wp Q X = ∃ t, owS (atS env i) = some t ∧ ∃ d, t.data = some d ∧ Q d (setV env i (.own (.fz d))) := by
  show (match ownT env i with
    | some t => match t.data with
      | some d => .ok d (setV env i (.own (.fz d)))
      | none => .bad
    | none => .bad : Res PyData).wp Q X = _
  rw [ownT_eq]
  cases owS (atS env i) with
  | none => simp [wp_bad]
  | some t => cases h : t.data <;> simp [wp_bad, wp_ok, h]
theorem we_neg {a : E} : (evE G (.neg a) env).wp Q X = (evE G a env).wp (fun x e => ∃ i, intD x = some i ∧ Q (.int (-i)) e) X := by
  show ((evE G a env).bind _).wp Q X = _
  rw [wp_bind]
  congr 1
  funext x e
  cases x <;> simp [wp_bad, wp_ok, intD]
theorem we_tup {es : E} : (evE G (.tup es) env).wp Q X = (evEs G es env).wp (fun ds e => ds.length ≤ sizeLine ∧ Q (.tuple ds) e) X := by
  show ((evEs G es env).bind _).wp Q X = _
  rw [wp_bind]
  congr 1
  funext ds e
  rw [wp_ite]
  by_cases h : ds.length ≤ sizeLine <;> simp [h, wp_ok, wp_bad]
theorem we_lst {es : E} : (evE G (.lst es) env).wp Q X = (evEs G es env).wp (fun ds e => ds.length ≤ sizeLine ∧ Q (.list ds) e) X := by
  show ((evEs G es env).bind _).wp Q X = _
  rw [wp_bind]
  congr 1
  funext ds e
  rw [wp_ite]
  by_cases h : ds.length ≤ sizeLine <;> simp [h, wp_ok, wp_bad]
theorem we_bin {o : Op} {a b : E} : (evE G (.bin o a b) env).wp Q X = (evE G a env).wp (fun x e1 => (evE G b e1).wp (fun y e2 => ∃ z, opBin o x y = some z ∧ Q z e2) X) X := by
  show ((evE G a env).bind _).wp Q X = _
  rw [wp_bind]
  congr 1
  funext x e
  rw [wp_bind]
  congr 1
  funext y e2
  exact wp_ofO
theorem wb_map {o : Option Bool} {e : Env} : (Res.ofO (o.map PyData.bool) e).wp Q X = ∃ c, o = some c ∧ Q (.bool c) e := by
  rw [wp_ofO]
  cases o <;> simp
theorem we_cmp {o : Cm} {a b : E} : (evE G (.cmp o a b) env).wp Q X = (evE G a env).wp (fun x e1 => (evE G b e1).wp (fun y e2 => ∃ c, opCmp o x y = some c ∧ Q (.bool c) e2) X) X := by
  show ((evE G a env).bind _).wp Q X = _
  rw [wp_bind]
  congr 1
  funext x e
  rw [wp_bind]
  congr 1
  funext y e2
  exact wb_map
theorem we_chain {o o' : Cm} {a b c : E} : (evE G (.chain o o' a b c) env).wp Q X = (evE G a env).wp (fun x e1 => (evE G b e1).wp (fun y e2 => ∃ k, opCmp o x y = some k ∧ if k = true then (evE G c e2).wp (fun z e3 => ∃ k', opCmp o' y z = some k' ∧ Q (.bool k') e3) X else Q (.bool false) e2) X) X := by
  show ((evE G a env).bind _).wp Q X = _
  rw [wp_bind]
  congr 1
  funext x e
  rw [wp_bind]
  congr 1
  funext y e2
  cases opCmp o x y with
  | none => simp [wp_bad]
  | some k =>
    cases k with
    | false => simp [wp_ok]
    | true =>
      simp only [wp_bind, Option.some.injEq, exists_eq_left', if_true]
      congr 1
      funext z e3
      exact wb_map
def boolD : PyData → Option Bool
  | .bool b => some b
  | _ => none
theorem boolD_bool (b : Bool) : boolD (.bool b) = some b := rfl
theorem we_and {a b : E} : (evE G (.and a b) env).wp Q X = (evE G a env).wp (fun x e => ∃ k, boolD x = some k ∧ if k = true then (evE G b e).wp Q X else Q (.bool false) e) X := by
  show ((evE G a env).bind _).wp Q X = _
  rw [wp_bind]
  congr 1
  funext x e
  cases x with
  | bool k => cases k <;> simp [boolD, wp_ok]
  | _ => simp [boolD, wp_bad]
theorem we_or {a b : E} : (evE G (.or a b) env).wp Q X = (evE G a env).wp (fun x e => ∃ k, boolD x = some k ∧ if k = true then Q (.bool true) e else (evE G b e).wp Q X) X := by
  show ((evE G a env).bind _).wp Q X = _
  rw [wp_bind]
  congr 1
  funext x e
  cases x with
  | bool k => cases k <;> simp [boolD, wp_ok]
  | _ => simp [boolD, wp_bad]
theorem we_not {a : E} : (evE G (.not a) env).wp Q X = (evE G a env).wp (fun x e => ∃ k, boolD x = some k ∧ Q (.bool (!k)) e) X := by
  show ((evE G a env).bind _).wp Q X = _
  rw [wp_bind]
  congr 1
  funext x e
  cases x with
  | bool k => cases k <;> simp [boolD, wp_ok]
  | _ => simp [boolD, wp_bad]
theorem we_one {a : E} : (evE G (.one a) env).wp Q X = (evE G a env).wp Q X := rfl
theorem we_ife {c a b : E} : (evE G (.ife c a b) env).wp Q X = (evT G c env).wp (fun k e => if k = true then (evE G a e).wp Q X else (evE G b e).wp Q X) X := by
  show ((evT G c env).bind _).wp Q X = _
  rw [wp_bind]
  congr 1
  funext k e
  rw [wp_ite]
theorem we_ix {a b : E} : (evE G (.ix a b) env).wp Q X = (evE G a env).wp (fun x e1 => (evE G b e1).wp (fun y e2 => ∃ z, ixD x y = some z ∧ Q z e2) X) X := by
  show ((evE G a env).bind _).wp Q X = _
  rw [wp_bind]
  congr 1
  funext x e
  rw [wp_bind]
  congr 1
  funext y e2
  exact wp_ofO
theorem we_sl {a b c : E} : (evE G (.sl a b c) env).wp Q X = (evE G a env).wp (fun x e1 => (evPt G b e1).wp (fun y e2 => (evPt G c e2).wp (fun w e3 => ∃ z, slD x y w = some z ∧ Q z e3) X) X) X := by
  show ((evE G a env).bind _).wp Q X = _
  rw [wp_bind]
  congr 1
  funext x e
  rw [wp_bind]
  congr 1
  funext y e2
  rw [wp_bind]
  congr 1
  funext y e2
  exact wp_ofO
theorem wpt_no {Q : Option Int → Env → Prop} : (evPt G .noPart env).wp Q X = Q none env := rfl
theorem wpt_part {a : E} {Q : Option Int → Env → Prop} : (evPt G (.part a) env).wp Q X = (evE G a env).wp (fun x e => ∃ i, intD x = some i ∧ Q (some i) e) X := by
  show ((evE G a env).bind _).wp Q X = _
  rw [wp_bind]
  congr 1
  funext x e
  cases x <;> simp [wp_bad, wp_ok, intD]
theorem we_bi {f : Bi} {es : E} : (evE G (.bi f es) env).wp Q X = (evEs G es env).wp (fun ds e => ∃ z, opBi f ds = some z ∧ Q z e) X := by
  show ((evEs G es env).bind _).wp Q X = _
  rw [wp_bind]
  congr 1
  funext x e
  exact wp_ofO
def strD1 : PyData → Option Str
  | .str x => some x
  | _ => none
theorem strD1_str (x : Str) : strD1 (.str x) = some x := rfl
theorem we_mt0 {m : Mt} {a : E} : (evE G (.mt0 m a) env).wp Q X = (evE G a env).wp (fun x e => ∃ s, strD1 x = some s ∧ ∃ z, opMt m (.str s) [] = some z ∧ Q z e) X := by
  show ((evE G a env).bind _).wp Q X = _
  rw [wp_bind]
  congr 1
  funext x e
  cases x <;> simp [wp_bad, wp_ofO, strD1]
theorem we_mt1 {m : Mt} {a b : E} : (evE G (.mt1 m a b) env).wp Q X = (evE G a env).wp (fun x e => ∃ s, strD1 x = some s ∧ (evE G b e).wp (fun y e2 => ∃ z, opMt m (.str s) [y] = some z ∧ Q z e2) X) X := by
  show ((evE G a env).bind _).wp Q X = _
  rw [wp_bind]
  congr 1
  funext x e
  cases x with
  | str s =>
    simp only [strD1, Option.some.injEq, exists_eq_left', wp_bind]
    congr 1
    funext y e2
    exact wp_ofO
  | _ => simp [wp_bad, strD1]
theorem we_ofr {o : E} : (evE G (.ofr o) env).wp Q X = (evO G o env).wp (fun t e => ∃ d, t.data = some d ∧ Q d e) X := by
  show ((evO G o env).bind _).wp Q X = _
  rw [wp_bind]
  congr 1
  funext x e
  exact wp_ofO
def lsT : T → Option (List T)
  | .ls ts => some ts
  | _ => none
theorem lsT_ls (ts : List T) : lsT (.ls ts) = some ts := rfl
theorem isLs_eq (e : Env) (q : Nat × List Sg) : isLs e q = ((readP e q.1 q.2).bind lsT).isSome := by
  unfold isLs
  cases readP e q.1 q.2 with
  | none => rfl
  | some t => cases t <;> rfl
theorem wp_w {e : Env} {o : Option Env} {d : PyData} {Q : PyData → Env → Prop} : (Res.ofO (o.map fun _ => d) (o.getD e)).wp Q X = ∃ e3, o = some e3 ∧ Q d e3 := by
  rw [wp_ofO]
  cases o <;> simp
theorem we_app {l a : E} : (evE G (.app l a) env).wp Q X = (evL G l env).wp (fun q e1 => late q a = true ∧ isLs e1 q = true ∧ (evE G a e1).wp (fun d e2 => ∃ t, ownP e2 q.1 q.2 = some t ∧ ∃ ts, lsT t = some ts ∧ ts.length < sizeLine ∧ ∃ e3, writeP e2 q.1 q.2 (.ls (ts ++ [.fz d])) = some e3 ∧ Q .none e3) X) X := by
  show ((evL G l env).bind _).wp Q X = _
  rw [wp_bind]
  congr 1
  funext q e
  cases h1 : late q a with
  | false => simp [wp_bad]
  | true =>
    cases h2 : isLs e q with
    | false => simp [wp_bad]
    | true =>
      simp only [Bool.and_self, reduceCtorEq, if_false, wp_bind, true_and]
      congr 1
      funext d e2
      cases ownP e2 q.1 q.2 with
      | none => simp [wp_bad]
      | some t =>
        cases t with
        | ls ts =>
          simp only [wp_ite, wp_w, Option.some.injEq, exists_eq_left', lsT, wp_bad]
          by_cases h : ts.length < sizeLine <;> simp [h]
        | _ => simp [wp_bad, lsT]
def lisD : PyData → Option (List PyData)
  | .list ds => some ds
  | _ => none
theorem lisD_list (ds : List PyData) : lisD (.list ds) = some ds := rfl
theorem we_isi {t : Nat} {a : E} : (evE G (.isi t a) env).wp Q X = (evE G a env).wp (fun x e => ∃ b, isiD t x = some b ∧ Q (.bool b) e) X := by
  show ((evE G a env).bind _).wp Q X = _
  rw [wp_bind]
  congr 1
  funext x e
  exact wb_map
theorem we_sset {a : E} : (evE G (.sset a) env).wp Q X = (evE G a env).wp (fun x e => ∃ r, ssetD x = some r ∧ Q r e) X := by
  show ((evE G a env).bind _).wp Q X = _
  rw [wp_bind]
  congr 1
  funext x e
  rw [wp_ofO]
theorem we_rev {a : E} : (evE G (.rev a) env).wp Q X = (evE G a env).wp (fun x e => ∃ ds, lisD x = some ds ∧ Q (.list ds.reverse) e) X := by
  show ((evE G a env).bind _).wp Q X = _
  rw [wp_bind]
  congr 1
  funext x e
  cases x <;> simp [lisD, wp_bad, wp_ok]
theorem we_ext {l a : E} : (evE G (.ext l a) env).wp Q X = (evL G l env).wp (fun q e1 => late q a = true ∧ isLs e1 q = true ∧ (evE G a e1).wp (fun d e2 => ∃ t, ownP e2 q.1 q.2 = some t ∧ ∃ ts, lsT t = some ts ∧ ∃ ds, lisD d = some ds ∧ ts.length + ds.length ≤ sizeLine ∧
    ∃ e3, writeP e2 q.1 q.2 (.ls (ts ++ ds.map .fz)) = some e3 ∧ Q .none e3) X) X := by
  show ((evL G l env).bind _).wp Q X = _
  rw [wp_bind]
  congr 1
  funext q e
  cases h1 : late q a with
  | false => simp [wp_bad]
  | true =>
    cases h2 : isLs e q with
    | false => simp [wp_bad]
    | true =>
      simp only [Bool.and_self, reduceCtorEq, if_false, wp_bind, true_and]
      congr 1
      funext d e2
      cases ownP e2 q.1 q.2 with
      | none => simp [wp_bad]
      | some t =>
        cases t with
        | ls ts =>
          cases d with
          | list ds =>
            simp only [wp_ite, wp_w, Option.some.injEq, exists_eq_left', lsT, wp_bad, lisD]
            by_cases h : ts.length + ds.length ≤ sizeLine <;> simp [h]
          | _ => simp [wp_bad, lsT, lisD]
        | _ => simp [wp_bad, lsT]
theorem we_revL {l : E} : (evE G (.revL l) env).wp Q X = (evL G l env).wp (fun q e1 => ∃ t, ownP e1 q.1 q.2 = some t ∧ ∃ ts, lsT t = some ts ∧ ∃ e3, writeP e1 q.1 q.2 (.ls ts.reverse) = some e3 ∧ Q .none e3) X := by
  show ((evL G l env).bind _).wp Q X = _
  rw [wp_bind]
  congr 1
  funext q e
  cases ownP e q.1 q.2 with
  | none => simp [wp_bad]
  | some t =>
    cases t with
    | ls ts => simp only [wp_w, Option.some.injEq, exists_eq_left', lsT]
    | _ => simp [wp_bad, lsT]
theorem we_pop {l : E} : (evE G (.pop l) env).wp Q X = (evL G l env).wp (fun q e1 => ∃ t, ownP e1 q.1 q.2 = some t ∧ ∃ ts, lsT t = some ts ∧ ∃ u, ts[ts.length - 1]? = some u ∧ ∃ d, fzT u = some d ∧ ∃ e3, writeP e1 q.1 q.2 (.ls ts.dropLast) = some e3 ∧ Q d e3) X := by
  show ((evL G l env).bind _).wp Q X = _
  rw [wp_bind]
  congr 1
  funext q e
  cases ownP e q.1 q.2 with
  | none => simp [wp_bad]
  | some t =>
    cases t with
    | ls ts =>
      simp only [Option.some.injEq, exists_eq_left', lsT]
      cases ts[ts.length - 1]? with
      | none => simp [wp_bad]
      | some u => cases u <;> simp [wp_bad, wp_w, fzT]
    | _ => simp [wp_bad, lsT]
theorem we_popAt {l a : E} : (evE G (.popAt l a) env).wp Q X = (evL G l env).wp (fun q e1 => late q a = true ∧ isLs e1 q = true ∧ (evE G a e1).wp (fun k e2 => ∃ t, ownP e2 q.1 q.2 = some t ∧ ∃ ts, lsT t = some ts ∧ ∃ i, intD k = some i ∧ i.natAbs < 2 ^ 62 ∧
    ∃ j, ixN ts.length i = some j ∧ ∃ u, ts[j]? = some u ∧ ∃ d, fzT u = some d ∧ ∃ e3, writeP e2 q.1 q.2 (.ls (ts.eraseIdx j)) = some e3 ∧ Q d e3) X) X := by
  show ((evL G l env).bind _).wp Q X = _
  rw [wp_bind]
  congr 1
  funext q e
  cases h1 : late q a with
  | false => simp [wp_bad]
  | true =>
    cases h2 : isLs e q with
    | false => simp [wp_bad]
    | true =>
      simp only [Bool.and_self, reduceCtorEq, if_false, wp_bind, true_and]
      congr 1
      funext d e2
      cases ownP e2 q.1 q.2 with
      | none => simp [wp_bad]
      | some t =>
        cases t with
        | ls ts =>
          cases h3 : intD d with
          | none => simp [wp_bad, lsT]
          | some i =>
            simp only [lsT, Option.some.injEq, exists_eq_left']
            by_cases h : i.natAbs < 2 ^ 62
            · simp only [if_pos h, h, true_and]
              cases ixN ts.length i with
              | none => simp [wp_bad]
              | some j =>
                simp only [Option.some.injEq, exists_eq_left']
                cases h9 : ts[j]? with
                | none => simp [wp_bad, h9]
                | some u => cases u <;> simp [wp_bad, wp_w, fzT, h9]
            · simp [h, wp_bad]
        | _ => simp [wp_bad, lsT]
theorem wes_nil {Q : List PyData → Env → Prop} : (evEs G .nil env).wp Q X = Q [] env := rfl
theorem wes_cons {a r : E} {Q : List PyData → Env → Prop} : (evEs G (.cons a r) env).wp Q X = (evE G a env).wp (fun d e1 => (evEs G r e1).wp (fun ds e2 => Q (d :: ds) e2) X) X := by
  show ((evE G a env).bind _).wp Q X = _
  rw [wp_bind]
  congr 1
  funext q e
  rw [wp_bind]
  rfl
section
variable {Q : Bool → Env → Prop}
theorem wt_nil : (evT G .nil env).wp Q X = Q true env := rfl
theorem wt_and {a b : E} : (evT G (.and a b) env).wp Q X = (evT G a env).wp (fun k e => if k = true then (evT G b e).wp Q X else Q false e) X := by
  show ((evT G a env).bind _).wp Q X = _
  rw [wp_bind]
  congr 1
  funext k e
  cases k <;> rfl
theorem wt_or {a b : E} : (evT G (.or a b) env).wp Q X = (evT G a env).wp (fun k e => if k = true then Q true e else (evT G b e).wp Q X) X := by
  show ((evT G a env).bind _).wp Q X = _
  rw [wp_bind]
  congr 1
  funext k e
  cases k <;> rfl
theorem wt_not {a : E} : (evT G (.not a) env).wp Q X = (evT G a env).wp (fun k e => Q (!k) e) X := by
  show ((evT G a env).bind _).wp Q X = _
  rw [wp_bind]
  rfl
theorem wt_one {a : E} : (evT G (.one a) env).wp Q X = (evT G a env).wp Q X := rfl
theorem wt_cmp {o : Cm} {a b : E} : (evT G (.cmp o a b) env).wp Q X = (evE G a env).wp (fun x e1 => (evE G b e1).wp (fun y e2 => ∃ c, opCmp o x y = some c ∧ Q c e2) X) X := by
  show ((evE G a env).bind _).wp Q X = _
  rw [wp_bind]
  congr 1
  funext x e
  rw [wp_bind]
  congr 1
  funext y e2
  exact wp_ofO
theorem wt_chain {o o' : Cm} {a b c : E} : (evT G (.chain o o' a b c) env).wp Q X = (evE G a env).wp (fun x e1 => (evE G b e1).wp (fun y e2 => ∃ k, opCmp o x y = some k ∧ if k = true then (evE G c e2).wp (fun z e3 => ∃ k', opCmp o' y z = some k' ∧ Q k' e3) X else Q false e2) X) X := by
  show ((evE G a env).bind _).wp Q X = _
  rw [wp_bind]
  congr 1
  funext x e
  rw [wp_bind]
  congr 1
  funext y e2
  cases opCmp o x y with
  | none => simp [wp_bad]
  | some k =>
    cases k with
    | false => simp [wp_ok]
    | true =>
      simp only [wp_bind, Option.some.injEq, exists_eq_left', if_true]
      congr 1
      funext z e3
      exact wp_ofO
theorem wt_tru {a : E} : (evT G (.tru a) env).wp Q X = (evE G a env).wp (fun x e => ∃ k, truD x = some k ∧ Q k e) X := by
  show ((evE G a env).bind _).wp Q X = _
  rw [wp_bind]
  congr 1
  funext k e
  exact wp_ofO
end
section
variable {Q : Nat × List Sg → Env → Prop}
def insT : T → Option (Str × List (Str × T))
  | .ins c fs => some (c, fs)
  | _ => none
theorem insT_ins (c : Str) (fs : List (Str × T)) : insT (.ins c fs) = some (c, fs) := rfl
theorem wl_fld {l : E} {f : Str} : (evL G (.lfld l f) env).wp Q X = (evL G l env).wp (fun q e => ∃ t, readP e q.1 q.2 = some t ∧ ∃ c, insT t = some c ∧ (lookA c.2 f).isSome = true ∧ G.fld c.1 f = true ∧ Q (q.1, q.2 ++ [.fld f]) e) X := by
  show ((evL G l env).bind _).wp Q X = _
  rw [wp_bind]
  congr 1
  funext q e
  cases readP e q.1 q.2 with
  | none => simp [wp_bad]
  | some t =>
    cases t with
    | ins c fs =>
      simp only [wp_ite, insT, Option.some.injEq, exists_eq_left', wp_ok, wp_bad]
      cases (lookA fs f).isSome <;> cases G.fld c f <;> simp
    | _ => simp [wp_bad, insT]
theorem wl_ix {l a : E} : (evL G (.lix l a) env).wp Q X = (evL G l env).wp (fun q e => late q a = true ∧ (evE G a e).wp (fun k e2 => ∃ t, readP e2 q.1 q.2 = some t ∧ ∃ ts, lsT t = some ts ∧ ∃ i, intD k = some i ∧ ∃ j, ixN ts.length i = some j ∧ Q (q.1, q.2 ++ [.ix j]) e2) X) X := by
  show ((evL G l env).bind _).wp Q X = _
  rw [wp_bind]
  congr 1
  funext q e
  cases h1 : late q a with
  | false => simp [wp_bad]
  | true =>
    simp only [reduceCtorEq, if_false, wp_bind, true_and]
    congr 1
    funext k e2
    cases readP e2 q.1 q.2 with
    | none => simp [wp_bad]
    | some t =>
      cases t with
      | ls ts =>
        cases intD k with
        | none => simp [wp_bad, lsT]
        | some i =>
          simp only [lsT, Option.some.injEq, exists_eq_left']
          cases ixN ts.length i <;> simp [wp_bad, wp_ok]
      | _ => simp [wp_bad, lsT]
def dkT : T → Option (List (Key × T))
  | .dk kvs => some kvs
  | _ => none
theorem dkT_dk (kvs : List (Key × T)) : dkT (.dk kvs) = some kvs := rfl
def dnT : T → Option (List (NestedKey × T))
  | .dn kvs => some kvs
  | _ => none
theorem dnT_dn (kvs : List (NestedKey × T)) : dnT (.dn kvs) = some kvs := rfl
theorem wl_key {l a : E} : (evL G (.lkey l a) env).wp Q X = (evL G l env).wp (fun q e => late q a = true ∧ (evE G a e).wp (fun k e2 => ∃ t, readP e2 q.1 q.2 = some t ∧ ∃ ts, dkT t = some ts ∧ ∃ i, keyOf k = some i ∧ (lookA ts i).isSome = true ∧ Q (q.1, q.2 ++ [.key i]) e2) X) X := by
  show ((evL G l env).bind _).wp Q X = _
  rw [wp_bind]
  congr 1
  funext q e
  cases h1 : late q a with
  | false => simp [wp_bad]
  | true =>
    simp only [reduceCtorEq, if_false, wp_bind, true_and]
    congr 1
    funext k e2
    cases readP e2 q.1 q.2 with
    | none => simp [wp_bad]
    | some t =>
      cases t with
      | dk ts =>
        cases keyOf k with
        | none => simp [wp_bad, dkT]
        | some i =>
          simp only [dkT, Option.some.injEq, exists_eq_left']
          cases (lookA ts i).isSome <;> simp [wp_bad, wp_ok]
      | _ => simp [wp_bad, dkT]
theorem wl_nk {l a : E} : (evL G (.lnk l a) env).wp Q X = (evL G l env).wp (fun q e => late q a = true ∧ (evE G a e).wp (fun k e2 => ∃ t, readP e2 q.1 q.2 = some t ∧ ∃ ts, dnT t = some ts ∧ ∃ i, nkOf k = some i ∧ (lookA ts i).isSome = true ∧ Q (q.1, q.2 ++ [.nk i]) e2) X) X := by
  show ((evL G l env).bind _).wp Q X = _
  rw [wp_bind]
  congr 1
  funext q e
  cases h1 : late q a with
  | false => simp [wp_bad]
  | true =>
    simp only [reduceCtorEq, if_false, wp_bind, true_and]
    congr 1
    funext k e2
    cases readP e2 q.1 q.2 with
    | none => simp [wp_bad]
    | some t =>
      cases t with
      | dn ts =>
        cases nkOf k with
        | none => simp [wp_bad, dnT]
        | some i =>
          simp only [dnT, Option.some.injEq, exists_eq_left']
          cases (lookA ts i).isSome <;> simp [wp_bad, wp_ok]
      | _ => simp [wp_bad, dnT]
end
section
variable {Q : List AV → Env → Prop}
theorem wa_nil : (evA G .nil env).wp Q X = Q [] env := rfl
theorem wa_cons {a r : E} : (evA G (.cons a r) env).wp Q X = (evA1 G a env).wp (fun v e1 => lateA v r = true ∧ (evA G r e1).wp (fun vs e2 => (v.tree e2).isSome = true ∧ Q (v :: vs) e2) X) X := by
  show ((evA1 G a env).bind _).wp Q X = _
  rw [wp_bind]
  congr 1
  funext v e
  cases lateA v r with
  | false => simp [wp_bad]
  | true =>
    simp only [reduceCtorEq, if_false, wp_bind, true_and]
    congr 1
    funext vs e2
    rw [wp_ite]
    cases (v.tree e2).isSome <;> simp [wp_bad, wp_ok]
variable {P : AV → Env → Prop}
theorem wa_ava {o : E} : (evA1 G (.ava o) env).wp P X = (evO G o env).wp (fun t e => P (.val t) e) X := by
  show ((evO G o env).bind _).wp P X = _
  rw [wp_bind]; rfl
theorem wa_aro {o : E} : (evA1 G (.aro o) env).wp P X = (evL G o env).wp (fun q e => P (.pth false q.1 q.2) e) X := by
  show ((evL G o env).bind _).wp P X = _
  rw [wp_bind]; rfl
theorem wa_arw {o : E} : (evA1 G (.arw o) env).wp P X = (evL G o env).wp (fun q e => P (.pth true q.1 q.2) e) X := by
  show ((evL G o env).bind _).wp P X = _
  rw [wp_bind]; rfl
end
section
variable {Q : T → Env → Prop}
theorem wo_fz {a : E} : (evO G (.ofz a) env).wp Q X = (evE G a env).wp (fun d e => Q (.fz d) e) X := by
  show ((evE G a env).bind _).wp Q X = _
  rw [wp_bind]; rfl
theorem wo_mv {i : Nat} : (evO G (.mv i) env).wp Q X = ∃ t, owS (atS env i) = some t ∧ Q t (setV env i .no) := by
  show (match ownT env i with
    | some t => .ok t (setV env i .no)
    | none => .bad : Res T).wp Q X = _
  rw [ownT_eq]
  cases owS (atS env i) <;> simp [wp_bad, wp_ok]
theorem wo_lst {es : E} : (evO G (.olst es) env).wp Q X = (evOs G es env).wp (fun ts e => ts.length ≤ sizeLine ∧ Q (.ls ts) e) X := by
  show ((evOs G es env).bind _).wp Q X = _
  rw [wp_bind]
  congr 1
  funext ts e
  rw [wp_ite]
  by_cases h : ts.length ≤ sizeLine <;> simp [h, wp_ok, wp_bad]
def seqD : PyData → Option (List PyData)
  | .list ds => some ds
  | .tuple ds => some ds
  | _ => none
theorem seqD_list (ds : List PyData) : seqD (.list ds) = some ds := rfl
theorem seqD_tuple (ds : List PyData) : seqD (.tuple ds) = some ds := rfl
theorem wo_list {a : E} : (evO G (.olist a) env).wp Q X = (evE G a env).wp (fun d e => ∃ ds, seqD d = some ds ∧ Q (.ls (ds.map .fz)) e) X := by
  show ((evE G a env).bind _).wp Q X = _
  rw [wp_bind]
  congr 1
  funext d e
  cases d <;> simp [wp_ok, wp_bad, seqD]
theorem wo_range {a : E} : (evO G (.orange a) env).wp Q X = (evE G a env).wp (fun d e => ∃ j, intD d = some j ∧ ∃ ds, rng2D 0 j = some ds ∧ ds.length ≤ 16777216 ∧ Q (.ls (ds.map .fz)) e) X := by
  show ((evE G a env).bind _).wp Q X = _
  rw [wp_bind]
  congr 1
  funext d e
  cases intD d with
  | none => simp [wp_bad]
  | some j =>
    simp only [Option.some.injEq, exists_eq_left']
    cases rng2D 0 j with
    | none => simp [wp_bad]
    | some ds =>
      simp only [Option.some.injEq, exists_eq_left', wp_ite, wp_bad, wp_ok]
      by_cases h : ds.length ≤ 16777216 <;> simp [h]
theorem wo_call {f : Str} {as : E} : (evO G (.call f as) env).wp Q X = ∃ F, G.fn f = some F ∧ (evA G as env).wp (fun vs e => (callF (some F) vs e).wp Q X) X := by
  show (match G.fn f with
    | none => .bad
    | some F => (evA G as env).bind fun as env1 => callF (some F) as env1 : Res T).wp Q X = _
  cases G.fn f with
  | none => simp [wp_bad]
  | some F => simp [wp_bind]
theorem wos_nil {Q : List T → Env → Prop} : (evOs G .nil env).wp Q X = Q [] env := rfl
theorem wos_cons {a r : E} {Q : List T → Env → Prop} : (evOs G (.cons a r) env).wp Q X = (evO G a env).wp (fun d e1 => (evOs G r e1).wp (fun ds e2 => Q (d :: ds) e2) X) X := by
  show ((evO G a env).bind _).wp Q X = _
  rw [wp_bind]
  congr 1
  funext q e
  rw [wp_bind]
  rfl
end
section
variable {Q : List PyData → Env → Prop}
theorem wi_r1 {a : E} : (evI G (.range1 a) env).wp Q X = (evE G a env).wp (fun x e => ∃ j, intD x = some j ∧ ∃ ds, rng2D 0 j = some ds ∧ Q ds e) X := by
  show ((evE G a env).bind _).wp Q X = _
  rw [wp_bind]
  congr 1
  funext x e
  cases intD x <;> simp [wp_bad, wp_ofO]
theorem wi_r2 {a b : E} : (evI G (.range2 a b) env).wp Q X = (evE G a env).wp (fun x e => (evE G b e).wp (fun y e2 => ∃ i, intD x = some i ∧ ∃ j, intD y = some j ∧ ∃ ds, rng2D i j = some ds ∧ Q ds e2) X) X := by
  show ((evE G a env).bind _).wp Q X = _
  rw [wp_bind]
  congr 1
  funext x e
  rw [wp_bind]
  congr 1
  funext y e2
  cases intD x <;> cases intD y <;> simp [wp_bad, wp_ofO]
theorem wi_r3 {a b c : E} : (evI G (.range3 a b c) env).wp Q X = (evE G a env).wp (fun x e => (evE G b e).wp (fun y e2 => (evE G c e2).wp (fun z e3 => ∃ i, intD x = some i ∧ ∃ j, intD y = some j ∧ ∃ k, intD z = some k ∧ ∃ ds, rng3D i j k = some ds ∧ Q ds e3) X) X) X := by
  show ((evE G a env).bind _).wp Q X = _
  rw [wp_bind]
  congr 1
  funext x e
  rw [wp_bind]
  congr 1
  funext y e2
  rw [wp_bind]
  congr 1
  funext z e3
  cases intD x <;> cases intD y <;> cases intD z <;> simp [wp_bad, wp_ofO]
theorem wi_rev {a : E} : (evI G (.revI a) env).wp Q X = (evE G a env).wp (fun x e => ∃ ds, lisD x = some ds ∧ Q ds.reverse e) X := by
  show ((evE G a env).bind _).wp Q X = _
  rw [wp_bind]
  congr 1
  funext x e
  cases x <;> simp [wp_bad, wp_ok, lisD]
theorem wi_itv {a : E} : (evI G (.itv a) env).wp Q X = (evE G a env).wp (fun x e => ∃ ds, lisD x = some ds ∧ Q ds e) X := by
  show ((evE G a env).bind _).wp Q X = _
  rw [wp_bind]
  congr 1
  funext x e
  cases x <;> simp [wp_bad, wp_ok, lisD]
def tupD : PyData → Option (List PyData)
  | .tuple ds => some ds
  | _ => none
theorem tupD_tuple (ds : List PyData) : tupD (.tuple ds) = some ds := rfl
theorem wi_itt {a : E} : (evI G (.itt a) env).wp Q X = (evE G a env).wp (fun x e => ∃ ds, tupD x = some ds ∧ Q ds e) X := by
  show ((evE G a env).bind _).wp Q X = _
  rw [wp_bind]
  congr 1
  funext x e
  cases x <;> simp [wp_bad, wp_ok, tupD]
theorem wi_its {a : E} : (evI G (.its a) env).wp Q X = (evE G a env).wp (fun x e => ∃ z, strD1 x = some z ∧ Q (z.cps.toList.map fun c => .str ⟨#[c]⟩) e) X := by
  show ((evE G a env).bind _).wp Q X = _
  rw [wp_bind]
  congr 1
  funext x e
  cases x <;> simp [wp_bad, wp_ok, strD1]
theorem wi_lkv {i : Nat} : (evI G (.lkv i) env).wp Q X = ∃ t, owS (atS env i) = some t ∧ ∃ ts, lsT t = some ts ∧ ∃ ds, flatT ts = some ds ∧ Q ds env := by
  show (match env[i]? with
    | some (.own (.ls ts)) => match flatT ts with
      | some ds => .ok ds env
      | none => .bad
    | _ => .bad : Res (List PyData)).wp Q X = _
  rw [atS_eq]
  cases atS env i with
  | none => simp [wp_bad, owS]
  | some s =>
    cases s with
    | own t =>
      cases t with
      | ls ts =>
        simp only [owS, lsT, Option.some.injEq, exists_eq_left']
        cases flatT ts <;> simp [wp_bad, wp_ok]
      | _ => simp [wp_bad, owS, lsT]
    | _ => simp [wp_bad, owS]
end
end
def freeIt : E → Bool
  | .lkv _ => false
  | _ => true
theorem lk_free {it : E} (h : freeIt it = true) (e : Env) : lk it e = e := by cases it <;> first | rfl | simp [freeIt] at h
theorem unlk_free {it : E} (h : freeIt it = true) (e : Env) : unlk it e = e := by cases it <;> first | rfl | simp [freeIt] at h
theorem lk_lkv (i : Nat) (e : Env) : lk (.lkv i) e = match atS e i with
    | some (.own t) => e.set i (.ro t)
    | _ => e := by
  show (match e[i]? with
    | some (.own t) => e.set i (.ro t)
    | _ => e) = _
  rw [atS_eq]
theorem unlk_lkv (i : Nat) (e : Env) : unlk (.lkv i) e = match atS e i with
    | some (.ro t) => e.set i (.own t)
    | _ => e := by
  show (match e[i]? with
    | some (.ro t) => e.set i (.own t)
    | _ => e) = _
  rw [atS_eq]

/-! ### a comprehension's own names -/
def wipeOk : Option Sl → Bool
  | some .no => true
  | some (.own (.fz _)) => true
  | _ => false
theorem wipeOk_no : wipeOk (some .no) = true := rfl
theorem wipeOk_own (d : PyData) : wipeOk (some (.own (.fz d))) = true := rfl
theorem wipeOk_opt (o : Option PyData) : wipeOk (some (opt o)) = true := by cases o <;> rfl
theorem wipe_nil (e : Env) : wipeE e [] = some e := rfl
theorem wipe_cons (env : Env) (x : Str) (i : Nat) (r : List (Str × Nat)) : wipeE env ((x, i) :: r) = (wipeE env r).bind fun e => if wipeOk (atS e i) = true then some (setV e i .no) else none := by
  conv => lhs; unfold wipeE
  cases wipeE env r with
  | none => rfl
  | some e =>
    simp only [Option.bind_some, atS_eq]
    cases atS e i with
    | none => rfl
    | some s => cases s with
      | own t => cases t <;> rfl
      | _ => rfl
def bkS : Option Sl → Sl
  | some (.own (.fz d)) => .own (.fz d)
  | _ => .no
theorem bkS_no : bkS (some .no) = .no := rfl
theorem bkS_own (d : PyData) : bkS (some (.own (.fz d))) = .own (.fz d) := rfl
theorem bkS_opt (o : Option PyData) : bkS (some (opt o)) = opt o := by cases o <;> rfl
theorem back_nil (a e : Env) : backE a e [] = e := rfl
theorem back_cons (a e : Env) (x : Str) (i : Nat) (r : List (Str × Nat)) : backE a e ((x, i) :: r) = (backE a e r).set i (bkS (atS a i)) := by
  conv => lhs; unfold backE
  congr 1
  rw [atS_eq]
  cases atS a i with
  | none => rfl
  | some s => cases s with
    | own t => cases t <;> rfl
    | _ => rfl
theorem lk_r1 (a : E) (e : Env) : lk (.range1 a) e = e := rfl
theorem lk_r2 (a b : E) (e : Env) : lk (.range2 a b) e = e := rfl
theorem lk_r3 (a b c : E) (e : Env) : lk (.range3 a b c) e = e := rfl
theorem lk_rev (a : E) (e : Env) : lk (.revI a) e = e := rfl
theorem lk_itv (a : E) (e : Env) : lk (.itv a) e = e := rfl
theorem lk_itt (a : E) (e : Env) : lk (.itt a) e = e := rfl
theorem lk_its (a : E) (e : Env) : lk (.its a) e = e := rfl
theorem unlk_r1 (a : E) (e : Env) : unlk (.range1 a) e = e := rfl
theorem unlk_r2 (a b : E) (e : Env) : unlk (.range2 a b) e = e := rfl
theorem unlk_r3 (a b c : E) (e : Env) : unlk (.range3 a b c) e = e := rfl
theorem unlk_rev (a : E) (e : Env) : unlk (.revI a) e = e := rfl
theorem unlk_itv (a : E) (e : Env) : unlk (.itv a) e = e := rfl
theorem unlk_itt (a : E) (e : Env) : unlk (.itt a) e = e := rfl
theorem unlk_its (a : E) (e : Env) : unlk (.its a) e = e := rfl
theorem range_at {n : Nat} {pre post : List Nat} {x : Nat} (h : List.range n = pre ++ x :: post) : x = pre.length ∧ x < n := by
  have hl : n = pre.length + (post.length + 1) := by
    have := congrArg List.length h
    simpa using this
  have h1 : (List.range n)[pre.length]? = some x := by rw [h]; simp
  rw [List.getElem?_range (by omega)] at h1
  have := Option.some.inj h1
  omega
theorem range_pre {n : Nat} {pre post : List Nat} {x : Nat} (h : List.range n = pre ++ x :: post) : pre = List.range pre.length := by
  have hl : n = pre.length + (post.length + 1) := by
    have := congrArg List.length h
    simpa using this
  have h1 : (List.range n).take pre.length = pre := by rw [h]; simp
  rw [← h1, List.take_range]
  congr 1
  simp
/-! ### picking from a written list -/
section
variable {α : Type} {P : α → Prop}
theorem atI_0 (a : α) (r : List α) : atI (a :: r) 0 = some a := atI_nat (j := 0) rfl
theorem atI_1 (a b : α) (r : List α) : atI (a :: b :: r) 1 = some b := atI_nat (j := 1) rfl
theorem atI_2 (a b c : α) (r : List α) : atI (a :: b :: c :: r) 2 = some c := atI_nat (j := 2) rfl
theorem atI_3 (a b c d : α) (r : List α) : atI (a :: b :: c :: d :: r) 3 = some d := atI_nat (j := 3) rfl
theorem atI_4 (a b c d e : α) (r : List α) : atI (a :: b :: c :: d :: e :: r) 4 = some e := atI_nat (j := 4) rfl
theorem atI_5 (a b c d e f : α) (r : List α) : atI (a :: b :: c :: d :: e :: f :: r) 5 = some f := atI_nat (j := 5) rfl
theorem pick2 {a b : α} {k : Int} (h0 : 0 ≤ k) (h1 : k < 2) (pa : P a) (pb : P b) : ∃ z, atI [a, b] k = some z ∧ P z := by
  obtain rfl | rfl : k = 0 ∨ k = 1 := by omega
  · exact ⟨a, atI_0 _ _, pa⟩
  · exact ⟨b, atI_1 _ _ _, pb⟩
theorem pick3 {a b c : α} {k : Int} (h0 : 0 ≤ k) (h1 : k < 3) (pa : P a) (pb : P b) (pc : P c) : ∃ z, atI [a, b, c] k = some z ∧ P z := by
  obtain rfl | rfl | rfl : k = 0 ∨ k = 1 ∨ k = 2 := by omega
  · exact ⟨a, atI_0 _ _, pa⟩
  · exact ⟨b, atI_1 _ _ _, pb⟩
  · exact ⟨c, atI_2 _ _ _ _, pc⟩
theorem pick4 {a b c d : α} {k : Int} (h0 : 0 ≤ k) (h1 : k < 4) (pa : P a) (pb : P b) (pc : P c) (pd : P d) : ∃ z, atI [a, b, c, d] k = some z ∧ P z := by
  obtain rfl | rfl | rfl | rfl : k = 0 ∨ k = 1 ∨ k = 2 ∨ k = 3 := by omega
  · exact ⟨a, atI_0 _ _, pa⟩
  · exact ⟨b, atI_1 _ _ _, pb⟩
  · exact ⟨c, atI_2 _ _ _ _, pc⟩
  · exact ⟨d, atI_3 _ _ _ _ _, pd⟩
theorem pick5 {a b c d e : α} {k : Int} (h0 : 0 ≤ k) (h1 : k < 5) (pa : P a) (pb : P b) (pc : P c) (pd : P d) (pe : P e) : ∃ z, atI [a, b, c, d, e] k = some z ∧ P z := by
  obtain rfl | rfl | rfl | rfl | rfl : k = 0 ∨ k = 1 ∨ k = 2 ∨ k = 3 ∨ k = 4 := by omega
  · exact ⟨a, atI_0 _ _, pa⟩
  · exact ⟨b, atI_1 _ _ _, pb⟩
  · exact ⟨c, atI_2 _ _ _ _, pc⟩
  · exact ⟨d, atI_3 _ _ _ _ _, pd⟩
  · exact ⟨e, atI_4 _ _ _ _ _ _, pe⟩
theorem pick6 {a b c d e f : α} {k : Int} (h0 : 0 ≤ k) (h1 : k < 6) (pa : P a) (pb : P b) (pc : P c) (pd : P d) (pe : P e) (pf : P f) : ∃ z, atI [a, b, c, d, e, f] k = some z ∧ P z := by
  obtain rfl | rfl | rfl | rfl | rfl | rfl : k = 0 ∨ k = 1 ∨ k = 2 ∨ k = 3 ∨ k = 4 ∨ k = 5 := by omega
  · exact ⟨a, atI_0 _ _, pa⟩
  · exact ⟨b, atI_1 _ _ _, pb⟩
  · exact ⟨c, atI_2 _ _ _ _, pc⟩
  · exact ⟨d, atI_3 _ _ _ _ _, pd⟩
  · exact ⟨e, atI_4 _ _ _ _ _ _, pe⟩
  · exact ⟨f, atI_5 _ _ _ _ _ _ _, pf⟩
end
theorem r_rng (a b : Int) : rng2D a b = if (-(2 ^ 62) ≤ a ∧ a < 2 ^ 62 ∧ -(2 ^ 62) ≤ b ∧ b < 2 ^ 62) then some ((List.range (b - a).toNat).map fun (k : Nat) => PyData.int (a + (k : Int))) else none := rfl

/-! ### loops and comprehensions, once the items are known -/
def CompP (G : Gl) (own : List (Str × Nat)) (elt tg it ifs : E) (items : List PyData) (env1 : Env) (Q : T → Env → Prop) (X : XQ) : Prop :=
  ((compL (fun x e => match wipeE e own with
      | none => .bad
      | some e0 => match bindT tg x e0 with
        | none => .bad
        | some e1 => (evT G ifs e1).bind fun k e2 => if k then (evO G elt e2).bind fun d e3 => .ok (some d) e3 else .ok none e2) items (lk it env1)).calm.bind fun ys env3 =>
    match wipeE (lk it env1) own, wipeE env3 own with
    | some _, some e4 => if ys.length ≤ sizeLine then (.ok (.ls ys) (unlk it (backE (lk it env1) e4 own)) : Res T) else .bad
    | _, _ => .bad).wp Q X
theorem wo_comp {G : Gl} {env : Env} {own : List (Str × Nat)} {elt tg it ifs : E} {Q : T → Env → Prop} {X : XQ} : (evO G (.ocomp own elt tg it ifs) env).wp Q X = (evI G it env).wp (fun items e => CompP G own elt tg it ifs items e Q X) X := by
  show ((evI G it env).bind _).wp Q X = _
  rw [wp_bind]
  rfl
theorem comp_intro {G : Gl} {e : Env} {own : List (Str × Nat)} {elt tg it ifs : E} {Q : T → Env → Prop} {X : XQ} {α : Type} {items : List PyData} (enc : α → PyData) (xs : List α) (I : List α → List T → Env → Prop)
    (hi : items = xs.map enc) (hw : (wipeE (lk it e) own).isSome = true) (i0 : I [] [] (lk it e))
    (step : ∀ pre x post acc e, xs = pre ++ x :: post → I pre acc e → ∃ e0, wipeE e own = some e0 ∧ ∃ e1, bindT tg (enc x) e0 = some e1 ∧
      (evT G ifs e1).wp (fun k e2 => if k = true then (evO G elt e2).wp (fun d e3 => I (pre ++ [x]) (acc ++ [d]) e3) noX else I (pre ++ [x]) acc e2) noX)
    (fin : ∀ ys e3, I xs ys e3 → ∃ e4, wipeE e3 own = some e4 ∧ ys.length ≤ sizeLine ∧ Q (.ls ys) (unlk it (backE (lk it e) e4 own))) : CompP G own elt tg it ifs items e Q X := by
  subst hi
  unfold CompP
  rw [wp_bind]
  refine wp_mono (calm_wp (compL_wp I (fun pre x post acc e hx i => ?_) xs [] [] (lk it e) rfl i0)) (fun ys e3 i3 => ?_) fun _ _ y => y
  · obtain ⟨e0, h0, e1, h1, h2⟩ := step pre x post acc e hx i
    simp only [h0, h1]
    rw [wp_bind]
    refine wp_mono h2 (fun k e2 q => ?_) fun _ _ y => y
    cases k with
    | false => simpa [wp_ok] using q
    | true =>
      simp only [if_true] at q ⊢
      rw [wp_bind]
      exact wp_mono q (fun d e3 q3 => by simpa [wp_ok] using q3) fun _ _ y => y
  · rw [List.nil_append] at i3
    obtain ⟨e4, h4, hl, q⟩ := fin ys e3 i3
    obtain ⟨e5, h5⟩ := Option.isSome_iff_exists.mp hw
    simp only [h4, h5, if_pos hl]
    exact q
/-- a comprehension that changes nothing, over one name: item by item -/
theorem comp_pure {G : Gl} {e : Env} {nm : Str} {i : Nat} {elt it ifs : E} {Q : T → Env → Prop} {X : XQ} {α : Type} {items : List PyData} (enc : α → PyData) (xs : List α) (g : α → Option T) 
    (hi : items = xs.map enc) (hlk : lk it e = e) (hun : ∀ e, unlk it e = e) (hn : atS e i = some .no) (hd : e.map (dropAl i) = e)
    (step : ∀ x ∈ xs, (evT G ifs (e.set i (.own (.fz (enc x))))).wp (fun k e2 => if k = true then (evO G elt e2).wp (fun d e3 => g x = some d ∧ e3 = e.set i (.own (.fz (enc x)))) noX else g x = none ∧ e2 = e.set i (.own (.fz (enc x)))) noX)
    (len : xs.length ≤ sizeLine) (fin : Q (.ls (xs.filterMap g)) e) : CompP G [(nm, i)] elt (.tvar i) it ifs items e Q X := by
  have hlt : i < e.length := by
    rw [← atS_eq] at hn
    exact (List.getElem?_eq_some_iff.mp hn).1
  have hno : e.set i .no = e := by
    refine List.ext_getElem? fun j => ?_
    by_cases h : i = j
    · subst h
      rw [List.getElem?_set_self hlt, atS_eq, hn]
    · rw [List.getElem?_set_ne h]
  have ds : ∀ s, dropAl i s = s → (e.set i s).map (dropAl i) = e.set i s := fun s hs => by rw [List.map_set, hd, hs]
  have at1 : ∀ s, atS (e.set i s) i = some s := fun s => by rw [← atS_eq, List.getElem?_set_self hlt]
  have wp : ∀ s, wipeOk (some s) = true → dropAl i s = s → wipeE (e.set i s) [(nm, i)] = some e := fun s h1 h2 => by
    rw [wipe_cons, wipe_nil]
    simp only [Option.bind_some, at1, h1, if_true]
    rw [setV_eq, ds s h2, List.set_set, hno]
  have bd : ∀ d, bindT (.tvar i) d e = some (e.set i (.own (.fz d))) := fun d => by
    show setT e i (.fz d) = _
    rw [setT_eq, hn]
    simp only [canS, if_true]
    rw [setV_eq, hd]
  refine comp_intro enc xs (fun pre acc e' => acc = pre.filterMap g ∧ ∃ o, e' = e.set i (opt o)) hi ?_ ?_ ?_ ?_
  · rw [hlk, ← hno, wp .no rfl rfl]; rfl
  · rw [hlk]; exact ⟨rfl, none, hno.symm⟩
  · rintro pre x post acc e' hx ⟨rfl, o, rfl⟩
    refine ⟨e, wp _ (wipeOk_opt o) (dropAl_opt i o), _, bd _, ?_⟩
    refine wp_mono (step x (by rw [hx]; simp)) (fun k e2 q => ?_) fun _ _ y => y
    cases k with
    | true =>
      simp only [if_true] at q ⊢
      refine wp_mono q (fun d e3 q3 => ?_) fun _ _ y => y
      refine ⟨?_, some (enc x), q3.2⟩
      rw [List.filterMap_append]; simp [q3.1]
    | false =>
      simp only [Bool.false_eq_true, if_false] at q ⊢
      refine ⟨?_, some (enc x), q.2⟩
      rw [List.filterMap_append]; simp [q.1]
  · rintro ys e3 ⟨rfl, o, rfl⟩
    refine ⟨e, wp _ (wipeOk_opt o) (dropAl_opt i o), Nat.le_trans (List.length_filterMap_le _ _) len, ?_⟩
    rw [hlk, hun, back_cons, back_nil, hn, bkS_no, hno]
    exact fin
/-- the same, without a condition -/
theorem comp_map {G : Gl} {e : Env} {nm : Str} {i : Nat} {elt it : E} {Q : T → Env → Prop} {X : XQ} {α : Type} {items : List PyData} (enc : α → PyData) (xs : List α) (g : α → PyData) 
    (hi : items = xs.map enc) (hlk : lk it e = e) (hun : ∀ e, unlk it e = e) (hn : atS e i = some .no) (hd : e.map (dropAl i) = e)
    (step : ∀ x ∈ xs, (evO G elt (e.set i (.own (.fz (enc x))))).wp (fun d e3 => d = .fz (g x) ∧ e3 = e.set i (.own (.fz (enc x)))) noX)
    (len : xs.length ≤ sizeLine) (fin : Q (.ls ((xs.map g).map T.fz)) e) : CompP G [(nm, i)] elt (.tvar i) it .nil items e Q X := by
  refine comp_pure enc xs (fun x => some (.fz (g x))) hi hlk hun hn hd (fun x hx => ?_) len ?_
  · rw [wt_nil]
    simp only [if_true]
    exact wp_mono (step x hx) (fun d e3 q => ⟨by rw [q.1], q.2⟩) fun _ _ y => y
  · have : xs.filterMap (fun x => some (T.fz (g x))) = (xs.map g).map T.fz := by
      rw [List.map_map]
      induction xs with
      | nil => rfl
      | cons x xs ih => simp
    rw [this]
    exact fin
def ForP (G : Gl) (hit : Str → Str → Bool) (tg it : E) (b : S) (items : List PyData) (e : Env) (Q : Fl → Env → Prop) (X : XQ) : Prop := (match forL (turnF (evS G hit b) tg) items (lk it e) with
    | .ok f env2 => (.ok f (unlk it env2) : Res Fl)
    | .raise x env2 => .raise x (unlk it env2)
    | .bad => .bad).wp Q X
theorem st_for {G : Gl} {hit : Str → Str → Bool} {tg it : E} {b : S} {env : Env} {Q : Fl → Env → Prop} {X : XQ} : St G hit (.fo tg it b) env Q X = (evI G it env).wp (fun items e => ForP G hit tg it b items e Q X) X := by
  show ((evI G it env).bind _).wp Q X = _
  rw [wp_bind]
  rfl
/-- what a turn leaves -/
def turnQ {α : Type} (I : List α → Env → Prop) (pre : List α) (it : E) (Q : Fl → Env → Prop) : Fl → Env → Prop := fun f e2 => match f with
  | .nx => I pre e2
  | .ct => I pre e2
  | .bk => Q .nx (unlk it e2)
  | .ret t => Q (.ret t) (unlk it e2)
section
variable {α : Type} {I : List α → Env → Prop} {pre : List α} {it : E} {Q : Fl → Env → Prop} {e : Env}
theorem turnQ_nx : turnQ I pre it Q .nx e = I pre e := rfl
theorem turnQ_ct : turnQ I pre it Q .ct e = I pre e := rfl
theorem turnQ_bk : turnQ I pre it Q .bk e = Q .nx (unlk it e) := rfl
theorem turnQ_ret {t : T} : turnQ I pre it Q (.ret t) e = Q (.ret t) (unlk it e) := rfl
end
theorem for_intro {G : Gl} {hit : Str → Str → Bool} {tg it : E} {b : S} {items : List PyData} {e : Env} {Q : Fl → Env → Prop} {X : XQ} {α : Type} (enc : α → PyData) (xs : List α) (I : List α → Env → Prop) 
    (hi : items = xs.map enc) (i0 : I [] (lk it e))
    (step : ∀ pre x post e, xs = pre ++ x :: post → I pre e → ∃ e1, bindT tg (enc x) e = some e1 ∧ St G hit b e1 (turnQ I (pre ++ [x]) it Q) fun y e2 => X y (unlk it e2)) (fin : ∀ e, I xs e → Q .nx (unlk it e)) : ForP G hit tg it b items e Q X := by
  subst hi
  have h := forL_wp (b := turnF (evS G hit b) tg) (xs := xs) (enc := enc) (Q := fun f e2 => Q f (unlk it e2)) (X := fun y e2 => X y (unlk it e2)) I (fun pre x post e hx i => by
    obtain ⟨e1, h1, h2⟩ := step pre x post e hx i
    unfold turnF
    rw [h1]
    refine wp_mono h2 (fun f e2 q => ?_) fun _ _ y => y
    cases f <;> exact q) fin xs [] (lk it e) rfl i0
  unfold ForP
  cases hr : forL (turnF (evS G hit b) tg) (xs.map enc) (lk it e) <;> rw [hr] at h <;> exact h
def whileQ (I : Nat → Env → Prop) (n : Nat) (Q : Fl → Env → Prop) : Fl → Env → Prop := fun f e2 => match f with
  | .nx => ∃ m, m < n ∧ I m e2
  | .ct => ∃ m, m < n ∧ I m e2
  | .bk => Q .nx e2
  | .ret t => Q (.ret t) e2
section
variable {I : Nat → Env → Prop} {n : Nat} {Q : Fl → Env → Prop} {e : Env}
theorem whileQ_nx : whileQ I n Q .nx e = ∃ m, m < n ∧ I m e := rfl
theorem whileQ_ct : whileQ I n Q .ct e = ∃ m, m < n ∧ I m e := rfl
theorem whileQ_bk : whileQ I n Q .bk e = Q .nx e := rfl
theorem whileQ_ret {t : T} : whileQ I n Q (.ret t) e = Q (.ret t) e := rfl
end
theorem while_intro {G : Gl} {hit : Str → Str → Bool} {c : E} {b : S} {env : Env} {Q : Fl → Env → Prop} {X : XQ} (I : Nat → Env → Prop) (n : Nat) (hn : n < FUEL) (i0 : I n env)
    (step : ∀ n e, I n e → (evT G c e).wp (fun k e1 => if k = true then St G hit b e1 (whileQ I n Q) X else Q .nx e1) X) : St G hit (.whil c b) env Q X := by
  refine st_whil I n hn i0 fun n e i => wp_mono (step n e i) (fun k e1 q => ?_) fun _ _ y => y
  cases k with
  | false => exact q
  | true =>
    simp only [if_true] at q ⊢
    exact wp_mono q (fun f e2 q2 => by cases f <;> exact q2) fun _ _ y => y

def encN (k : Nat) : PyData := .int (k : Int)
theorem rng0 {j : Int} (h1 : j < 2 ^ 62) (h0 : 0 ≤ j) : rng2D 0 j = some ((List.range j.toNat).map encN) := by
  rw [r_rng, if_pos ⟨by decide, by decide, by omega, h1⟩]
  congr 1
  rw [Int.sub_zero]
  refine List.map_congr_left fun k _ => ?_
  show PyData.int (0 + (k : Int)) = .int (k : Int)
  rw [Int.zero_add]
def encA (a : Int) (k : Nat) : PyData := .int (a + (k : Int))
theorem rngA {a b : Int} (h0 : -(2 ^ 62) ≤ a) (h1 : a < 2 ^ 62) (h2 : -(2 ^ 62) ≤ b) (h3 : b < 2 ^ 62) : rng2D a b = some ((List.range (b - a).toNat).map (encA a)) := by
  rw [r_rng, if_pos ⟨h0, h1, h2, h3⟩]
  rfl

theorem r_join {a : Str} {ys : List Str} (h : (ys.map (·.length)).sum + ys.length * a.length ≤ 16777216) : opMt .join (.str a) [.list (ys.map PyData.str)] = some (.str (Txt.join a ys)) := by
  show (match strsOf (ys.map PyData.str) with
    | some ys => if (ys.map fun (y : Str) => y.length).sum + ys.length * a.length ≤ 16777216 then some (PyData.str (Txt.join a ys)) else none
    | none => none) = _
  rw [strsOf_map]
  simp only
  rw [if_pos h]
end Mp

end
section
set_option Elab.async false
set_option linter.all false
set_option maxRecDepth 100000
set_option autoImplicit false
/-! MiniPy: operations, with what they ask. -/
namespace Mp
open PySem PySem.Spec PyProof.Rows L2 TL

section
variable {α β : Type} {P : α → Prop} {c : Prop} [Decidable c]
theorem ex_if {x : α} : (∃ z, (if c then some x else none) = some z ∧ P z) = (c ∧ P x) := by
  by_cases h : c <;> simp [h]
theorem ex_ifm {o : Option β} {f : β → α} : (∃ z, (if c then o.map f else none) = some z ∧ P z) = (c ∧ ∃ y, o = some y ∧ P (f y)) := by
  by_cases h : c <;> cases o <;> simp [h]
theorem ex_map {o : Option β} {f : β → α} : (∃ z, o.map f = some z ∧ P z) = ∃ y, o = some y ∧ P (f y) := by
  cases o <;> simp
theorem ex_bind {o : Option β} {f : β → Option α} : (∃ z, o.bind f = some z ∧ P z) = ∃ y, o = some y ∧ ∃ z, f y = some z ∧ P z := by
  cases o <;> simp
end
theorem r_mulI (i j : Int) : opBin .mul (.int i) (.int j) = if (i.natAbs < 18446744073709551616 ∨ j.natAbs < 18446744073709551616) then some (.int (i * j)) else none := rfl
theorem r_modI (i j : Int) : opBin .mod (.int i) (.int j) = if j ≠ 0 then some (.int (i.fmod j)) else none := rfl
theorem r_fdivI (i j : Int) : opBin .fdiv (.int i) (.int j) = if (j ≠ 0 ∧ j.natAbs < 1073741824) then some (.int (i.fdiv j)) else none := rfl
theorem r_addS (x y : Str) : opBin .add (.str x) (.str y) = if x.length + y.length ≤ 16777216 then some (.str (x ++ y)) else none := rfl
theorem r_addL (x y : List PyData) : opBin .add (.list x) (.list y) = if x.length + y.length ≤ 16777216 then some (.list (x ++ y)) else none := rfl
theorem r_addT (x y : List PyData) : opBin .add (.tuple x) (.tuple y) = if x.length + y.length ≤ 16777216 then some (.tuple (x ++ y)) else none := rfl
theorem r_mulS (x : Str) (k : Int) : opBin .mul (.str x) (.int k) = if k = 0 then some (.str Str.empty) else if k = 1 then some (.str x) else none := rfl
theorem r_mulL' (xs : List PyData) (k : Int) : opBin .mul (.list xs) (.int k) = if (k.natAbs < 9223372036854775808 ∧ xs.length * k.toNat ≤ 16777216) then some (.list (List.replicate k.toNat xs).flatten) else none := rfl
theorem r_slL (xs : List PyData) (a b : Option Int) : slD (.list xs) a b = some (.list (cutD xs a b)) := rfl
theorem r_slT (xs : List PyData) (a b : Option Int) : slD (.tuple xs) a b = some (.tuple (cutD xs a b)) := rfl
theorem r_slS (x : Str) (a b : Option Int) : slD (.str x) a b = if x.length ≤ 16777216 then some (.str (cutS x a b)) else none := rfl
theorem r_ixS (x : Str) (i : Int) : ixD (.str x) (.int i) = if x.length ≤ 16777216 then (atI (tl x) i).map fun c => .str ⟨#[c]⟩ else none := rfl
theorem r_lenS (x : Str) : opBi .len [.str x] = if x.length ≤ 16777216 then some (.int x.length) else none := rfl
theorem r_strI (i : Int) : opBi .str [.int i] = if i.natAbs.log2 < 1920 then some (.str (toString i)) else none := rfl
theorem r_strS (x : Str) : opBi .str [.str x] = some (.str x) := rfl
theorem r_intS (a : Str) : opBi .int [.str a] = if a.length ≤ 640 then (PySem.intText? a).map .int else none := rfl
theorem r_any (xs : List PyData) : opBi .any [.list xs] = (boolsOf xs).map fun bs => .bool (bs.any id) := rfl
theorem r_all (xs : List PyData) : opBi .all [.list xs] = (boolsOf xs).map fun bs => .bool (bs.all id) := rfl
theorem r_sum (xs : List PyData) : opBi .sum [.list xs] = (intsOf xs).map fun ns => .int ns.sum := rfl
theorem r_min2 (i j : Int) : opBi .min2 [.int i, .int j] = some (.int (if j < i then j else i)) := rfl
theorem r_max2 (i j : Int) : opBi .max2 [.int i, .int j] = some (.int (if j > i then j else i)) := rfl
theorem r_truI (i : Int) : truD (.int i) = some (i != 0) := rfl
theorem r_truB (b : Bool) : truD (.bool b) = some b := rfl
theorem r_truL (xs : List PyData) : truD (.list xs) = some (!xs.isEmpty) := rfl
theorem r_truT (xs : List PyData) : truD (.tuple xs) = some (!xs.isEmpty) := rfl
theorem r_truN : truD .none = some false := rfl
theorem r_split (a b : Str) : opMt .split (.str a) [.str b] = if (b.length == 0) = false ∧ a.length + 2 ≤ 16777216 then some (.list ((Txt.split a b).map .str)) else none := rfl
theorem r_isN (x : PyData) : opCmp .isN x .none = some (match x with | .none => true | _ => false) := rfl
theorem r_notN (x : PyData) : opCmp .notN x .none = some (match x with | .none => false | _ => true) := rfl
/-- one sign in a text -/
theorem r_inS (c : Nat) (z : Str) : opCmp .isin (.str ⟨#[c]⟩) (.str z) = some (decide (c ∈ tl z)) := rfl
theorem r_notinS (c : Nat) (z : Str) : opCmp .notin (.str ⟨#[c]⟩) (.str z) = some (!decide (c ∈ tl z)) := rfl
theorem shaped_strs {n : Nat} {xs : List Str} (h : ∀ x ∈ xs, PyData.strOk x = true) : SeqAt.shaped (.list (xs.map .str)) = true := by
  have : NcL 0 ((xs.map (fun x : Str => x.length)).sum * 10 + xs.length * 4) (xs.map PyData.str) := by
    induction xs with
    | nil => exact nices_nil.mono (Nat.le_refl _) (Nat.zero_le _)
    | cons x xs ih =>
      have h1 := ih fun y hy => h y (List.mem_cons_of_mem _ hy)
      refine (nices_cons (nice_str (h x List.mem_cons_self) (Nat.le_refl _)) h1).mono (Nat.le_refl _) ?_
      simp only [List.map_cons, List.sum_cons, List.length_cons]
      omega
  exact (nice_list this).shaped (by decide)
/-- a text among texts -/
theorem r_inSL {x : Str} {xs : List Str} (hx : PyData.strOk x = true) (h : ∀ x ∈ xs, PyData.strOk x = true) : opCmp .isin (.str x) (.list (xs.map .str)) = some (decide (x ∈ xs)) := by
  show (if SeqAt.shaped (.str x) && SeqAt.shaped (.list (xs.map .str)) then some ((xs.map PyData.str).any fun z => PyData.eqv z (.str x)) else none) = _
  rw [shaped_strs (n := 0) h, shaped_str, hx]
  simp only [Bool.and_self, if_true, List.any_map]
  congr 1
  induction xs with
  | nil => rfl
  | cons y xs ih =>
    rw [List.any_cons, ih fun z hz => h z (List.mem_cons_of_mem _ hz)]
    simp only [Function.comp, eqv_str, List.mem_cons]
    by_cases e : x = y
    · simp [e]
    · have : ¬ y = x := fun q => e q.symm
      simp [e, this]
theorem r_inST {x : Str} {xs : List Str} : opCmp .isin (.str x) (.tuple (xs.map .str)) = some (decide (x ∈ xs)) := by
  show (if isFlat (.str x) && (xs.map PyData.str).all isFlat then some ((xs.map PyData.str).any fun z => PyData.eqv z (.str x)) else none) = _
  have : (xs.map PyData.str).all isFlat = true := by simp [List.all_map, isFlat]
  rw [this]
  simp only [isFlat, Bool.and_self, if_true, List.any_map]
  congr 1
  induction xs with
  | nil => rfl
  | cons y xs ih =>
    rw [List.any_cons, ih (by simp [List.all_map, isFlat])]
    simp only [Function.comp, eqv_str, List.mem_cons]
    by_cases e : x = y
    · simp [e]
    · have : ¬ y = x := fun q => e q.symm
      simp [e, this]
theorem cutD_to {α : Type} (xs : List α) (b : Int) (h : 0 ≤ b) : cutD xs none (some b) = xs.take b.toNat := by
  unfold cutD
  obtain ⟨n, rfl⟩ := Int.eq_ofNat_of_zero_le h
  have e1 : HT.sIx xs.length 0 none = 0 := rfl
  have e2 : HT.sIx xs.length xs.length (some (n : Int)) = min n xs.length := HT.sIx_nat _ _ _
  rw [e1, e2, List.drop_zero, Nat.sub_zero]
  rw [Int.toNat_natCast]
  by_cases hn : n ≤ xs.length
  · rw [Nat.min_eq_left hn]
  · rw [Nat.min_eq_right (by omega), List.take_of_length_le (Nat.le_refl _), List.take_of_length_le (by omega)]
theorem cutD_from {α : Type} (xs : List α) (a : Int) (h : 0 ≤ a) : cutD xs (some a) none = xs.drop a.toNat := by
  unfold cutD
  obtain ⟨n, rfl⟩ := Int.eq_ofNat_of_zero_le h
  have e1 : HT.sIx xs.length xs.length none = xs.length := rfl
  have e2 : HT.sIx xs.length 0 (some (n : Int)) = min n xs.length := HT.sIx_nat _ _ _
  rw [e1, e2, Int.toNat_natCast]
  by_cases hn : n ≤ xs.length
  · rw [Nat.min_eq_left hn, List.take_of_length_le (by rw [List.length_drop]; exact Nat.le_refl _)]
  · rw [Nat.min_eq_right (by omega), List.drop_of_length_le (Nat.le_refl _), List.drop_of_length_le (by omega), List.take_nil]
theorem cutD_mid {α : Type} (xs : List α) (a b : Int) (h : 0 ≤ a) (h2 : 0 ≤ b) : cutD xs (some a) (some b) = (xs.drop a.toNat).take (b.toNat - a.toNat) := by
  unfold cutD
  obtain ⟨n, rfl⟩ := Int.eq_ofNat_of_zero_le h
  obtain ⟨m, rfl⟩ := Int.eq_ofNat_of_zero_le h2
  have e1 : HT.sIx xs.length xs.length (some (m : Int)) = min m xs.length := HT.sIx_nat _ _ _
  have e2 : HT.sIx xs.length 0 (some (n : Int)) = min n xs.length := HT.sIx_nat _ _ _
  rw [e1, e2, Int.toNat_natCast, Int.toNat_natCast]
  by_cases hn : n ≤ xs.length
  · rw [Nat.min_eq_left hn]
    by_cases hm : m ≤ xs.length
    · rw [Nat.min_eq_left hm]
    · rw [Nat.min_eq_right (by omega), List.take_of_length_le (by rw [List.length_drop]; exact Nat.le_refl _), List.take_of_length_le (by rw [List.length_drop]; omega)]
  · rw [Nat.min_eq_right (by omega : xs.length ≤ n), List.drop_of_length_le (Nat.le_refl _), List.drop_of_length_le (by omega), List.take_nil, List.take_nil]
theorem cutS_eq (x : Str) (a b : Option Int) : tl (cutS x a b) = cutD (tl x) a b := by
  unfold cutS cutD
  rw [tl_mk, len_tl]
theorem nc0 : ((0 : Nat) : Int) = 0 := rfl
theorem nc1 : ((1 : Nat) : Int) = 1 := rfl
theorem nc2 : ((2 : Nat) : Int) = 2 := rfl
theorem nc3 : ((3 : Nat) : Int) = 3 := rfl
theorem nc4 : ((4 : Nat) : Int) = 4 := rfl
theorem nc5 : ((5 : Nat) : Int) = 5 := rfl
theorem nc6 : ((6 : Nat) : Int) = 6 := rfl
theorem nc7 : ((7 : Nat) : Int) = 7 := rfl
theorem nc8 : ((8 : Nat) : Int) = 8 := rfl
theorem nc9 : ((9 : Nat) : Int) = 9 := rfl
theorem nc10 : ((10 : Nat) : Int) = 10 := rfl
theorem nc11 : ((11 : Nat) : Int) = 11 := rfl
theorem nc12 : ((12 : Nat) : Int) = 12 := rfl
theorem nc13 : ((13 : Nat) : Int) = 13 := rfl
theorem nc14 : ((14 : Nat) : Int) = 14 := rfl
theorem nc15 : ((15 : Nat) : Int) = 15 := rfl
theorem nc16 : ((16 : Nat) : Int) = 16 := rfl
theorem r_nilL : opCmp .eq (.list []) (.list []) = some true := rfl
theorem r_inT1 (x a0 : Str) : opCmp .isin (.str x) (.tuple [.str a0]) = some (decide (x = a0)) := by
  refine Eq.trans (r_inST (x := x) (xs := [a0])) ?_
  congr 1
  simp
theorem r_niT1 (x a0 : Str) : opCmp .notin (.str x) (.tuple [.str a0]) = some (!decide (x = a0)) := by
  show (opCmp .isin (.str x) (.tuple [.str a0])).map _ = _
  rw [r_inT1]
  rfl
theorem r_inT2 (x a0 a1 : Str) : opCmp .isin (.str x) (.tuple [.str a0, .str a1]) = some (decide (x = a0 ∨ x = a1)) := by
  refine Eq.trans (r_inST (x := x) (xs := [a0, a1])) ?_
  congr 1
  simp
theorem r_niT2 (x a0 a1 : Str) : opCmp .notin (.str x) (.tuple [.str a0, .str a1]) = some (!decide (x = a0 ∨ x = a1)) := by
  show (opCmp .isin (.str x) (.tuple [.str a0, .str a1])).map _ = _
  rw [r_inT2]
  rfl
theorem r_inT3 (x a0 a1 a2 : Str) : opCmp .isin (.str x) (.tuple [.str a0, .str a1, .str a2]) = some (decide (x = a0 ∨ x = a1 ∨ x = a2)) := by
  refine Eq.trans (r_inST (x := x) (xs := [a0, a1, a2])) ?_
  congr 1
  simp
theorem r_niT3 (x a0 a1 a2 : Str) : opCmp .notin (.str x) (.tuple [.str a0, .str a1, .str a2]) = some (!decide (x = a0 ∨ x = a1 ∨ x = a2)) := by
  show (opCmp .isin (.str x) (.tuple [.str a0, .str a1, .str a2])).map _ = _
  rw [r_inT3]
  rfl
theorem r_inT4 (x a0 a1 a2 a3 : Str) : opCmp .isin (.str x) (.tuple [.str a0, .str a1, .str a2, .str a3]) = some (decide (x = a0 ∨ x = a1 ∨ x = a2 ∨ x = a3)) := by
  refine Eq.trans (r_inST (x := x) (xs := [a0, a1, a2, a3])) ?_
  congr 1
  simp
theorem r_niT4 (x a0 a1 a2 a3 : Str) : opCmp .notin (.str x) (.tuple [.str a0, .str a1, .str a2, .str a3]) = some (!decide (x = a0 ∨ x = a1 ∨ x = a2 ∨ x = a3)) := by
  show (opCmp .isin (.str x) (.tuple [.str a0, .str a1, .str a2, .str a3])).map _ = _
  rw [r_inT4]
  rfl
theorem r_inT5 (x a0 a1 a2 a3 a4 : Str) : opCmp .isin (.str x) (.tuple [.str a0, .str a1, .str a2, .str a3, .str a4]) = some (decide (x = a0 ∨ x = a1 ∨ x = a2 ∨ x = a3 ∨ x = a4)) := by
  refine Eq.trans (r_inST (x := x) (xs := [a0, a1, a2, a3, a4])) ?_
  congr 1
  simp
theorem r_niT5 (x a0 a1 a2 a3 a4 : Str) : opCmp .notin (.str x) (.tuple [.str a0, .str a1, .str a2, .str a3, .str a4]) = some (!decide (x = a0 ∨ x = a1 ∨ x = a2 ∨ x = a3 ∨ x = a4)) := by
  show (opCmp .isin (.str x) (.tuple [.str a0, .str a1, .str a2, .str a3, .str a4])).map _ = _
  rw [r_inT5]
  rfl
theorem r_inT6 (x a0 a1 a2 a3 a4 a5 : Str) : opCmp .isin (.str x) (.tuple [.str a0, .str a1, .str a2, .str a3, .str a4, .str a5]) = some (decide (x = a0 ∨ x = a1 ∨ x = a2 ∨ x = a3 ∨ x = a4 ∨ x = a5)) := by
  refine Eq.trans (r_inST (x := x) (xs := [a0, a1, a2, a3, a4, a5])) ?_
  congr 1
  simp
theorem r_niT6 (x a0 a1 a2 a3 a4 a5 : Str) : opCmp .notin (.str x) (.tuple [.str a0, .str a1, .str a2, .str a3, .str a4, .str a5]) = some (!decide (x = a0 ∨ x = a1 ∨ x = a2 ∨ x = a3 ∨ x = a4 ∨ x = a5)) := by
  show (opCmp .isin (.str x) (.tuple [.str a0, .str a1, .str a2, .str a3, .str a4, .str a5])).map _ = _
  rw [r_inT6]
  rfl
end Mp

end
section
set_option Elab.async false
set_option linter.all false
set_option maxRecDepth 100000
set_option autoImplicit false
/-! MiniPy: rules for methods, instances, fields; loops over written items. -/
namespace Mp
open PySem PySem.Spec PyProof.Rows L2 TL

section
variable {G : Gl} {env : Env} {X : XQ} {Q : T → Env → Prop}
theorem wo_meth {l : E} {c m : Str} {as : E} : (evO G (.meth l c m as) env).wp Q X = ∃ F, G.me c m = some F ∧ (evL G l env).wp (fun q e1 => late q as = true ∧ isIns e1 q c m = true ∧ (evA G as e1).wp (fun vs e2 => ((AV.pth (rwF F) q.1 q.2).tree e2).isSome = true ∧ (callF (some F) (.pth (rwF F) q.1 q.2 :: vs) e2).wp Q X) X) X := by
  show (match G.me c m with
    | none => .bad
    | some F => (evL G l env).bind fun q env1 => if (late q as && isIns env1 q c m) = false then .bad else (evA G as env1).bind fun vs env2 => if ((AV.pth (rwF F) q.1 q.2).tree env2).isSome then callF (some F) (.pth (rwF F) q.1 q.2 :: vs) env2 else .bad : Res T).wp Q X = _
  cases G.me c m with
  | none => simp [wp_bad]
  | some F =>
    simp only [Option.some.injEq, exists_eq_left', wp_bind]
    congr 1
    funext q e1
    cases late q as with
    | false => simp [wp_bad]
    | true =>
      cases isIns e1 q c m with
      | false => simp [wp_bad]
      | true =>
        simp only [Bool.and_self, reduceCtorEq, if_false, wp_bind, true_and]
        congr 1
        funext vs e2
        cases ((AV.pth (rwF F) q.1 q.2).tree e2).isSome <;> simp [wp_bad]
theorem wo_methT_go {o : E} {c m : Str} {as : E} {F F' : Fn} (h1 : G.me c m = some F) (h2 : selfF F = some F') (h : (evO G o env).wp (fun t e1 => isInsT t c m = true ∧ (evA G as e1).wp (fun vs e2 => (callF (some F') (.val t :: vs) e2).wp Q X) X) X) :
    (evO G (.methT o c m as) env).wp Q X := by
  show (match G.me c m with
    | none => .bad
    | some F => (evO G o env).bind fun t env1 => if isInsT t c m = false then .bad else (evA G as env1).bind fun vs env2 => match selfF F with
      | none => .bad
      | some F' => callF (some F') (.val t :: vs) env2 : Res T).wp Q X
  rw [h1]
  simp only [wp_bind, h2]
  refine wp_mono h (fun t e1 q => ?_) fun _ _ y => y
  rw [q.1]
  simp only [Bool.true_eq_false, if_false, wp_bind]
  exact q.2
theorem wo_make {c : Str} {as : E} : (evO G (.make c as) env).wp Q X = ∃ F, makeF G c = some F ∧ (evA G as env).wp (fun vs e => (callF (some F) vs e).wp Q X) X := by
  show (match makeF G c with
    | none => .bad
    | some F => (evA G as env).bind fun as env1 => callF (some F) as env1 : Res T).wp Q X = _
  cases makeF G c with
  | none => simp [wp_bad]
  | some F => simp [wp_bind]
theorem isIns_eq (e : Env) (q : Nat × List Sg) (c m : Str) : isIns e q c m = ((readP e q.1 q.2).map fun t => isInsT t c m).getD false := by
  unfold isIns
  cases readP e q.1 q.2 with
  | none => rfl
  | some t => cases t <;> rfl
theorem isInsT_ins (c c' m : Str) (fs : List (Str × T)) : isInsT (.ins c' fs) c m = (decide (c' = c) && (lookA fs m).isNone) := rfl
end
theorem rwF_rw (ms : List Mode) (r : List T → FR) : rwF { modes := .rw :: ms, run := r } = true := rfl
section
variable {G : Gl} {hit : Str → Str → Bool} {env : Env} {Q : Fl → Env → Prop} {X : XQ}
theorem st_setfld {l o : E} {f : Str} : St G hit (.setfld l f o) env Q X = (evO G o env).wp (fun t e0 => (evL G l e0).wp (fun q e1 => ∃ u, ownP e1 q.1 q.2 = some u ∧ ∃ c, insT u = some c ∧ c.2.length < 1000 ∧ G.fld c.1 f = true ∧ ∃ e2, writeP e1 q.1 q.2 (.ins c.1 (putA c.2 f t)) = some e2 ∧ Q .nx e2) X) X := by
  show ((evO G o env).bind _).wp Q X = _
  rw [wp_bind]
  congr 1
  funext t e0
  rw [wp_bind]
  congr 1
  funext q e1
  cases ownP e1 q.1 q.2 with
  | none => simp [wp_bad]
  | some u =>
    cases u with
    | ins c fs =>
      simp only [Option.some.injEq, exists_eq_left', insT]
      by_cases h : fs.length < 1000
      · cases hg : G.fld c f with
        | false => simp [h, hg, wp_bad]
        | true =>
          simp only [h, hg, decide_true, Bool.and_self, if_true, true_and, wp_ofO]
          cases writeP e1 q.1 q.2 (.ins c (putA fs f t)) <;> simp
      · simp [h, wp_bad]
    | _ => simp [wp_bad, insT]
/-! written items -/
def ForR (G : Gl) (hit : Str → Str → Bool) (tg it : E) (b : S) (items : List PyData) (e : Env) (Q : Fl → Env → Prop) (X : XQ) : Prop := (forL (turnF (evS G hit b) tg) items e).wp (fun f e2 => Q f (unlk it e2)) fun y e2 => X y (unlk it e2)
def forK (G : Gl) (hit : Str → Str → Bool) (tg it : E) (b : S) (items : List PyData) (Q : Fl → Env → Prop) (X : XQ) : Fl → Env → Prop := fun f e2 => match f with
  | .nx => ForR G hit tg it b items e2 Q X
  | .ct => ForR G hit tg it b items e2 Q X
  | .bk => Q .nx (unlk it e2)
  | .ret t => Q (.ret t) (unlk it e2)
theorem forP_R {tg it : E} {b : S} {items : List PyData} {e : Env} (h : ForR G hit tg it b items (lk it e) Q X) : ForP G hit tg it b items e Q X := by
  unfold ForR at h
  unfold ForP
  cases hr : forL (turnF (evS G hit b) tg) items (lk it e) <;> rw [hr] at h <;> exact h
theorem forR_nil {tg it : E} {b : S} {e : Env} : ForR G hit tg it b [] e Q X = Q .nx (unlk it e) := rfl
theorem forR_cons {tg it : E} {b : S} {x : PyData} {items : List PyData} {e : Env} (h : ∃ e1, bindT tg x e = some e1 ∧ St G hit b e1 (forK G hit tg it b items Q X) fun y e2 => X y (unlk it e2)) : ForR G hit tg it b (x :: items) e Q X := by
  obtain ⟨e1, h1, h2⟩ := h
  show ((turnF (evS G hit b) tg x e).bind _).wp _ _
  rw [wp_bind]
  unfold turnF
  rw [h1]
  refine wp_mono h2 (fun f e2 q => ?_) fun _ _ y => y
  cases f <;> exact q
theorem forK_nx {tg it : E} {b : S} {items : List PyData} {e : Env} : forK G hit tg it b items Q X .nx e = ForR G hit tg it b items e Q X := rfl
theorem forK_ct {tg it : E} {b : S} {items : List PyData} {e : Env} : forK G hit tg it b items Q X .ct e = ForR G hit tg it b items e Q X := rfl
theorem forK_bk {tg it : E} {b : S} {items : List PyData} {e : Env} : forK G hit tg it b items Q X .bk e = Q .nx (unlk it e) := rfl
theorem forK_ret {tg it : E} {b : S} {items : List PyData} {e : Env} {t : T} : forK G hit tg it b items Q X (.ret t) e = Q (.ret t) (unlk it e) := rfl
end
/-! ### runs of a list -/
theorem tw_at {α : Type} {p : α → Bool} : ∀ {l : List α} {j : Nat}, j < (l.takeWhile p).length → ∃ c, l[j]? = some c ∧ p c = true
  | [], j, h => by simp at h
  | a :: l, j, h => by
    rw [List.takeWhile_cons] at h
    cases q : p a with
    | false => rw [q] at h; simp at h
    | true =>
      rw [q] at h
      simp only [if_true, List.length_cons] at h
      cases j with
      | zero => exact ⟨a, rfl, q⟩
      | succ j =>
        obtain ⟨c, h1, h2⟩ := tw_at (p := p) (l := l) (j := j) (by omega)
        exact ⟨c, by simpa using h1, h2⟩
theorem tw_end {α : Type} {p : α → Bool} : ∀ {l : List α} {c : α}, l[(l.takeWhile p).length]? = some c → p c = false
  | [], c, h => by simp at h
  | a :: l, c, h => by
    rw [List.takeWhile_cons] at h
    cases q : p a with
    | false =>
      rw [q] at h
      simp at h
      rw [← h]; exact q
    | true =>
      rw [q] at h
      simp only [if_true, List.length_cons] at h
      exact tw_end (l := l) (by simpa using h)
theorem tw_le {α : Type} {p : α → Bool} (l : List α) : (l.takeWhile p).length ≤ l.length := by
  induction l with
  | nil => simp
  | cons a l ih => rw [List.takeWhile_cons]; split <;> simp <;> omega
theorem tw_take {α : Type} {p : α → Bool} : ∀ l : List α, l.take (l.takeWhile p).length = l.takeWhile p
  | [] => rfl
  | a :: l => by
    rw [List.takeWhile_cons]
    split
    · simp [tw_take l]
    · rfl
theorem tw_drop {α : Type} {p : α → Bool} : ∀ l : List α, l.drop (l.takeWhile p).length = l.dropWhile p
  | [] => rfl
  | a :: l => by
    rw [List.takeWhile_cons, List.dropWhile_cons]
    split
    · simp [tw_drop l]
    · rfl
theorem pick7 {α : Type} {P : α → Prop} {a b c d e f x : α} {k : Int} (h0 : 0 ≤ k) (h1 : k < 7) (pa : P a) (pb : P b) (pc : P c) (pd : P d) (pe : P e) (pf : P f) (px : P x) : ∃ z, atI [a, b, c, d, e, f, x] k = some z ∧ P z := by
  obtain rfl | rfl | rfl | rfl | rfl | rfl | rfl : k = 0 ∨ k = 1 ∨ k = 2 ∨ k = 3 ∨ k = 4 ∨ k = 5 ∨ k = 6 := by omega
  · exact ⟨a, atI_0 _ _, pa⟩
  · exact ⟨b, atI_1 _ _ _, pb⟩
  · exact ⟨c, atI_2 _ _ _ _, pc⟩
  · exact ⟨d, atI_3 _ _ _ _ _, pd⟩
  · exact ⟨e, atI_4 _ _ _ _ _ _, pe⟩
  · exact ⟨f, atI_5 _ _ _ _ _ _ _, pf⟩
  · exact ⟨x, atI_nat (j := 6) rfl, px⟩
end Mp

end
section
set_option Elab.async false
set_option linter.all false
set_option maxRecDepth 100000
set_option autoImplicit false
/-! MiniPy: rules for raise, try. -/
namespace Mp
open PySem PySem.Spec PyProof.Rows L2 TL

section
variable {G : Gl} {hit : Str → Str → Bool} {env : Env} {Q : Fl → Env → Prop} {X : XQ} {x : Exn}
theorem st_raise {c : Str} {es : E} : St G hit (.raise c es) env Q X = ∃ fl, G.exn c = some fl ∧ (evEs G es env).wp (fun ds e => ds.length = fl.length ∧ X ⟨c, (fl.zip ds).reverse⟩ e) X := by
  show (match G.exn c with
    | some fl => (evEs G es env).bind fun ds env1 => if ds.length = fl.length then (.raise ⟨c, (fl.zip ds).reverse⟩ env1 : Res Fl) else .bad
    | none => .bad).wp Q X = _
  cases G.exn c with
  | none => simp [wp_bad]
  | some fl =>
    simp only [Option.some.injEq, exists_eq_left', wp_bind]
    congr 1
    funext ds e
    by_cases h : ds.length = fl.length <;> simp [h, wp_bad, wp_raise]
theorem st_tryx {b : S} {h : Hds} : St G hit (.tryx b h) env Q X = (hdsOk G h = true ∧ St G hit b env Q fun x e => (runH G x h e).wp Q X) := by
  show (if hdsOk G h = false then .bad else match evS G hit b env with
    | .ok f env1 => .ok f env1
    | .raise x env1 => runH G x h env1
    | .bad => .bad : Res Fl).wp Q X = _
  cases hdsOk G h with
  | false => simp [wp_bad]
  | true =>
    rw [if_neg (by decide)]
    simp only [true_and]
    unfold St
    cases evS G hit b env <;> rfl
def goH (o : Option PyData) (Q : Fl → Env → Prop) (e : Env) : Prop := match o with
  | some d => Q (.ret (.fz d)) e
  | none => Q .nx e
theorem goH_some {d : PyData} {e : Env} : goH (some d) Q e = Q (.ret (.fz d)) e := rfl
theorem goH_none {e : Env} : goH none Q e = Q .nx e := rfl
theorem rh_nil : (runH G x .nil env).wp Q X = X x env := rfl
theorem rh_cons {c : Str} {i : Option Nat} {b : Hs} {r : Hds} : (runH G x (.cons c i b r) env).wp Q X = ∃ k, G.hit x.c c = some k ∧ if k = true then (∃ e, offE i env = some e ∧ ∃ o, evHs G x b = some o ∧ goH o Q e) else (runH G x r env).wp Q X := by
  show (match G.hit x.c c with
    | some true => match offE i env, evHs G x b with
      | some env', some (some d) => (.ok (.ret (.fz d)) env' : Res Fl)
      | some env', some none => .ok .nx env'
      | _, _ => .bad
    | some false => runH G x r env
    | none => .bad).wp Q X = _
  cases G.hit x.c c with
  | none => simp [wp_bad]
  | some k =>
    cases k with
    | false => simp
    | true =>
      simp only [Option.some.injEq, exists_eq_left', if_true]
      cases offE i env with
      | none => simp [wp_bad]
      | some e =>
        simp only [Option.some.injEq, exists_eq_left']
        cases evHs G x b with
        | none => simp [wp_bad]
        | some o => cases o <;> simp [goH, wp_ok]
theorem hok_nil : hdsOk G .nil = true := rfl
theorem hok_cons {c : Str} {i : Option Nat} {b : Hs} {r : Hds} : hdsOk G (.cons c i b r) = ((G.exn c).isSome && hdsOk G r) := rfl
theorem off_none : offE none env = some env := rfl
def offB : Option Sl → Bool
  | some .no => true
  | some (.own (.fz _)) => true
  | _ => false
theorem offB_no : offB (some .no) = true := rfl
theorem offB_fz {d : PyData} : offB (some (.own (.fz d))) = true := rfl
theorem offB_opt {o : Option PyData} : offB (some (opt o)) = true := by cases o <;> rfl
theorem off_some {i : Nat} : offE (some i) env = if offB (atS env i) = true then some (setV env i .no) else none := by
  simp only [offE, atS_eq]
  cases atS env i with
  | none => rfl
  | some s => cases s with
    | own t => cases t <;> rfl
    | _ => rfl
theorem hs_fall : evHs G x .fall = some none := rfl
theorem hs_ret {a : Hx} : evHs G x (.ret a) = (evHx G x a).map some := rfl
def ifK (o : Option Bool) (a r : Option (Option PyData)) : Option (Option PyData) := match o with
  | some true => a
  | some false => r
  | none => none
theorem ifK_t {a r : Option (Option PyData)} : ifK (some true) a r = a := rfl
theorem ifK_f {a r : Option (Option PyData)} : ifK (some false) a r = r := rfl
theorem hs_ifr {c a : Hx} {r : Hs} : evHs G x (.ifr c a r) = ifK (hb (evHx G x c)) ((evHx G x a).map some) (evHs G x r) := by
  simp only [evHs]
  cases hb (evHx G x c) with
  | none => rfl
  | some b => cases b <;> rfl
theorem hb_b {k : Bool} : hb (some (.bool k)) = some k := rfl
theorem hx_con {d : PyData} : evHx G x (.con d) = some d := by simp only [evHx]
theorem hx_fld {f : Str} : evHx G x (.fld f) = (G.exn x.c).bind fun fl => if f ∈ fl then lookA x.fs f else none := by
  simp only [evHx]
  cases G.exn x.c <;> rfl
theorem hx_isi {c : Str} : evHx G x (.isi c) = (G.hit x.c c).map .bool := by simp only [evHx]
def tupK (o : Option (List PyData)) : Option PyData := match o with
  | some ds => if ds.length ≤ sizeLine then some (.tuple ds) else none
  | none => none
theorem tupK_s {ds : List PyData} : tupK (some ds) = if ds.length ≤ 16777216 then some (.tuple ds) else none := rfl
theorem hx_tupE {es : Hx} : evHx G x (.tup es) = tupK (evHxs G x es) := by
  simp only [evHx]
  rfl
def andK (o r : Option PyData) : Option PyData := match o with
  | some (.bool true) => r
  | some (.bool false) => some (.bool false)
  | _ => none
def orK (o r : Option PyData) : Option PyData := match o with
  | some (.bool false) => r
  | some (.bool true) => some (.bool true)
  | _ => none
def notK (o : Option PyData) : Option PyData := match o with
  | some (.bool k) => some (.bool (!k))
  | _ => none
theorem andK_t {r : Option PyData} : andK (some (.bool true)) r = r := rfl
theorem andK_f {r : Option PyData} : andK (some (.bool false)) r = some (.bool false) := rfl
theorem orK_f {r : Option PyData} : orK (some (.bool false)) r = r := rfl
theorem orK_t {r : Option PyData} : orK (some (.bool true)) r = some (.bool true) := rfl
theorem notK_b {k : Bool} : notK (some (.bool k)) = some (.bool (!k)) := rfl
theorem hx_and {a b : Hx} : evHx G x (.and a b) = andK (evHx G x a) (evHx G x b) := by
  simp only [evHx]
  rfl
theorem hx_or {a b : Hx} : evHx G x (.or a b) = orK (evHx G x a) (evHx G x b) := by
  simp only [evHx]
  rfl
theorem hx_not {a : Hx} : evHx G x (.not a) = notK (evHx G x a) := by
  simp only [evHx]
  rfl
theorem hx_one {a : Hx} : evHx G x (.one a) = evHx G x a := by simp only [evHx]
def consK (o : Option PyData) (r : Option (List PyData)) : Option (List PyData) := match o, r with
  | some d, some ds => some (d :: ds)
  | _, _ => none
theorem consK_s {d : PyData} {ds : List PyData} : consK (some d) (some ds) = some (d :: ds) := rfl
theorem hxs_nil : evHxs G x .nil = some [] := by simp only [evHxs]
theorem hxs_cons {a r : Hx} : evHxs G x (.cons a r) = consK (evHx G x a) (evHxs G x r) := by
  simp only [evHxs]
  rfl
end
theorem r_listL (xs : List PyData) : opBi .list [.list xs] = some (.list xs) := rfl
theorem r_listT (xs : List PyData) : opBi .list [.tuple xs] = some (.list xs) := rfl
theorem r_tupL (xs : List PyData) : opBi .tuple [.list xs] = some (.tuple xs) := rfl
theorem r_tupT (xs : List PyData) : opBi .tuple [.tuple xs] = some (.tuple xs) := rfl
theorem isi_i (t : Nat) (i : Int) : isiD t (.int i) = some (decide (0 = t) || false) := by simp [isiD, tyD]
theorem isi_l (t : Nat) (i : List PyData) : isiD t (.list i) = some (decide (3 = t) || false) := by simp [isiD, tyD]
theorem isi_t (t : Nat) (i : List PyData) : isiD t (.tuple i) = some (decide (4 = t) || false) := by simp [isiD, tyD]
theorem cut2_3 {α : Type} (a b c : α) : cutD [a, b, c] none (some 2) = [a, b] := rfl
theorem cut2_4 {α : Type} (a b c d : α) : cutD [a, b, c, d] none (some 2) = [a, b] := rfl
theorem cut3_3 {α : Type} (a b c : α) : cutD [a, b, c] (some 3) none = [] := rfl
theorem cut3_4 {α : Type} (a b c d : α) : cutD [a, b, c, d] (some 3) none = [d] := rfl
end Mp

end
section
set_option Elab.async false
set_option linter.all false
set_option maxRecDepth 100000
set_option autoImplicit false
namespace Mp
open PySem PySem.Spec PyProof.Rows L2
/-! ### the text -/
def topS (i : Nat) : Stmt := PySem.Challenge.pw_heldloops_k14_costs.main.body.getD i (.Pass ⟨0, 0, 0, 0⟩)
abbrev sf_sort_of : Stmt := topS 2
abbrev sf_goes_on : Stmt := topS 3
abbrev sf_cost : Stmt := topS 4
abbrev sf_is_integer : Stmt := topS 6
abbrev sf_state : Stmt := topS 7
abbrev sf_take : Stmt := topS 8
abbrev sf_part : Stmt := topS 9
abbrev sf_is_pass : Stmt := topS 10
abbrev sf_law_cost : Stmt := topS 11
abbrev sf_law_top : Stmt := topS 12
/-! ### the defs as terms -/
def nf_sort_of : List Str := ["instruction"]
def pf_sort_of : List Str := ["instruction"]
def df_sort_of : Dfn := ⟨[.val], 1, (.seq (.iff (.cmp .isin (.ix (.rd (.lvar 0)) (.con (.int 0))) (.glob ("MAKES" : Str))) (.seq (.ret (.ofz (.tup (.cons (.con (.str ("make" : Str))) (.cons (.con (.str ("" : Str))) .nil)))))
      .skip) .skip)
      (.seq (.iff (.cmp .eq (.ix (.rd (.lvar 0)) (.con (.int 0))) (.con (.str ("rack" : Str)))) (.seq (.ret (.ofz (.tup (.cons (.con (.str ("rack" : Str))) (.cons (.con (.str ("" : Str))) .nil)))))
      .skip) .skip)
      (.seq (.ret (.ofz (.tup (.cons (.ix (.rd (.lvar 0)) (.con (.int 0))) (.cons (.ix (.rd (.lvar 0)) (.con (.int 1))) .nil)))))
      .skip)))⟩
theorem scf_sort_of : FnScope nf_sort_of pf_sort_of (defScope sf_sort_of) := ⟨rfl, rfl, rfl, by decide +kernel, rfl, by decide +kernel, by decide +kernel⟩
theorem ckf_sort_of : chkS nf_sort_of (defScope sf_sort_of) (pinL 0 df_sort_of.modes) df_sort_of.b (defBody sf_sort_of) = true := by decide +kernel
def nf_goes_on : List Str := ["code", "start", "at", "step", "first"]
def pf_goes_on : List Str := ["code", "start", "at"]
def df_goes_on : Dfn := ⟨[.val, .val, .val], 5, (.seq (.iff (.or (.cmp .ge (.rd (.lvar 2)) (.bi .len (.cons (.rd (.lvar 0)) .nil))) (.or (.cmp .ne (.ofr (.call ("sort_of" : Str) (.cons (.ava (.ofz (.ix (.rd (.lvar 0)) (.rd (.lvar 2))))) .nil))) (.ofr (.call ("sort_of" : Str) (.cons (.ava (.ofz (.ix (.rd (.lvar 0)) (.rd (.lvar 1))))) .nil)))) (.one (.cmp .eq (.ix (.ix (.rd (.lvar 0)) (.rd (.lvar 2))) (.con (.int 0))) (.con (.str ("rack" : Str))))))) (.seq (.ret (.ofz (.con (.bool false))))
      .skip) .skip)
      (.seq (.asg 3 (.ofz (.bin .sub (.ix (.ix (.rd (.lvar 0)) (.rd (.lvar 2))) (.con (.int 2))) (.ix (.ix (.rd (.lvar 0)) (.bin .sub (.rd (.lvar 2)) (.con (.int 1)))) (.con (.int 2))))))
      (.seq (.iff (.cmp .eq (.rd (.lvar 2)) (.bin .add (.rd (.lvar 1)) (.con (.int 1)))) (.seq (.ret (.ofz (.cmp .ne (.rd (.lvar 3)) (.con (.int 0)))))
      .skip) .skip)
      (.seq (.asg 4 (.ofz (.bin .sub (.ix (.ix (.rd (.lvar 0)) (.bin .add (.rd (.lvar 1)) (.con (.int 1)))) (.con (.int 2))) (.ix (.ix (.rd (.lvar 0)) (.rd (.lvar 1))) (.con (.int 2))))))
      (.seq (.ret (.ofz (.or (.and (.cmp .gt (.rd (.lvar 3)) (.con (.int 0))) (.one (.cmp .gt (.rd (.lvar 4)) (.con (.int 0))))) (.one (.and (.cmp .lt (.rd (.lvar 3)) (.con (.int 0))) (.one (.cmp .lt (.rd (.lvar 4)) (.con (.int 0)))))))))
      .skip)))))⟩
theorem scf_goes_on : FnScope nf_goes_on pf_goes_on (defScope sf_goes_on) := ⟨rfl, rfl, rfl, by decide +kernel, rfl, by decide +kernel, by decide +kernel⟩
theorem ckf_goes_on : chkS nf_goes_on (defScope sf_goes_on) (pinL 0 df_goes_on.modes) df_goes_on.b (defBody sf_goes_on) = true := by decide +kernel
def nf_cost : List Str := ["code", "count", "at", "start"]
def pf_cost : List Str := ["code"]
def df_cost : Dfn := ⟨[.val], 4, (.seq (.asg 1 (.ofz (.con (.int 0))))
      (.seq (.asg 2 (.ofz (.con (.int 0))))
      (.seq (.whil (.cmp .lt (.rd (.lvar 2)) (.bi .len (.cons (.rd (.lvar 0)) .nil))) (.seq (.asg 3 (.ofz (.rd (.lvar 2))))
      (.seq (.asg 2 (.ofz (.bin .add (.rd (.lvar 2)) (.con (.int 1)))))
      (.seq (.whil (.tru (.ofr (.call ("goes_on" : Str) (.cons (.ava (.ofz (.rd (.lvar 0)))) (.cons (.ava (.ofz (.rd (.lvar 3)))) (.cons (.ava (.ofz (.rd (.lvar 2)))) .nil)))))) (.seq (.asg 2 (.ofz (.bin .add (.rd (.lvar 2)) (.con (.int 1)))))
      .skip))
      (.seq (.asg 1 (.ofz (.bin .add (.rd (.lvar 1)) (.con (.int 1)))))
      .skip)))))
      (.seq (.ret (.ofz (.rd (.lvar 1))))
      .skip))))⟩
theorem scf_cost : FnScope nf_cost pf_cost (defScope sf_cost) := ⟨rfl, rfl, rfl, by decide +kernel, rfl, by decide +kernel, by decide +kernel⟩
theorem ckf_cost : chkS nf_cost (defScope sf_cost) (pinL 0 df_cost.modes) df_cost.b (defBody sf_cost) = true := by decide +kernel
def nf_is_integer : List Str := ["_law_actual"]
def pf_is_integer : List Str := ["_law_actual"]
def df_is_integer : Dfn := ⟨[.val], 1, (.seq (.ret (.ofz (.and (.isi 0 (.rd (.lvar 0))) (.one (.not (.isi 1 (.rd (.lvar 0))))))))
      .skip)⟩
theorem scf_is_integer : FnScope nf_is_integer pf_is_integer (defScope sf_is_integer) := ⟨rfl, rfl, rfl, by decide +kernel, rfl, by decide +kernel, by decide +kernel⟩
theorem ckf_is_integer : chkS nf_is_integer (defScope sf_is_integer) (pinL 0 df_is_integer.modes) df_is_integer.b (defBody sf_is_integer) = true := by decide +kernel
def nf_state : List Str := ["_law_script", "_law_mixed", "_law_rest"]
def pf_state : List Str := ["_law_script"]
def df_state : Dfn := ⟨[.val], 3, (.seq (.asg 1 (.ofz (.con (.int 0))))
      (.seq (.asg 2 (.ofz (.con (.int 0))))
      (.seq (.iff (.cmp .gt (.bi .len (.cons (.rd (.lvar 0)) .nil)) (.con (.int 0))) (.seq (.asg 1 (.ofz (.bin .mod (.bi .int (.cons (.ix (.rd (.lvar 0)) (.con (.int 0))) .nil)) (.con (.int 2)))))
      (.seq (.asg 2 (.ofz (.ix (.lst (.cons (.bin .fdiv (.bi .abs (.cons (.ix (.rd (.lvar 0)) (.con (.int 0))) .nil)) (.con (.int 2))) (.cons (.con (.int 1)) .nil))) (.rd (.lvar 1)))))
      .skip)) .skip)
      (.seq (.ret (.olst (.cons (.ofz (.rd (.lvar 0))) (.cons (.ofz (.rd (.lvar 2))) (.cons (.ofz (.con (.int 1))) (.cons (.ofz (.rd (.lvar 1))) (.cons (.ofz (.lst .nil)) (.cons (.ofz (.con (.int 0))) (.cons (.ofz (.con (.int 0))) (.cons (.ofz (.con (.int 0))) .nil))))))))))
      .skip))))⟩
theorem scf_state : FnScope nf_state pf_state (defScope sf_state) := ⟨rfl, rfl, rfl, by decide +kernel, rfl, by decide +kernel, by decide +kernel⟩
theorem ckf_state : chkS nf_state (defScope sf_state) (pinL 0 df_state.modes) df_state.b (defBody sf_state) = true := by decide +kernel
def nf_take : List Str := ["_law_state_here", "_law_many", "_law_drawn", "_law_cell"]
def pf_take : List Str := ["_law_state_here", "_law_many"]
def df_take : Dfn := ⟨[.rw, .val], 4, (.seq (.iff (.cmp .eq (.rd (.lix (.lvar 0) (.con (.int 3)))) (.con (.int 1))) (.seq (.asg 3 (.ofz (.ix (.rd (.lix (.lvar 0) (.con (.int 0)))) (.bin .mod (.bi .int (.cons (.rd (.lix (.lvar 0) (.con (.int 2)))) .nil)) (.bi .len (.cons (.rd (.lix (.lvar 0) (.con (.int 0)))) .nil))))))
      (.seq (.setix (.lvar 0) (.con (.int 1)) (.ofz (.bin .mod (.bi .int (.cons (.bin .add (.bin .add (.bin .add (.bin .mul (.rd (.lix (.lvar 0) (.con (.int 1)))) (.con (.int 48271))) (.bin .mul (.rd (.lvar 3)) (.con (.int 69621)))) (.bin .mul (.rd (.lix (.lvar 0) (.con (.int 2)))) (.con (.int 7919)))) (.con (.int 11))) .nil)) (.con (.int 2147483647)))))
      (.seq (.setix (.lvar 0) (.con (.int 2)) (.ofz (.bin .add (.rd (.lix (.lvar 0) (.con (.int 2)))) (.con (.int 1)))))
      (.seq (.ret (.ofz (.bin .mod (.bin .mod (.bi .int (.cons (.bin .add (.bin .mul (.rd (.lix (.lvar 0) (.con (.int 1)))) (.con (.int 16807))) (.con (.int 5))) .nil)) (.con (.int 2147483629))) (.rd (.lvar 1)))))
      .skip)))) .skip)
      (.seq (.iff (.cmp .eq (.rd (.lix (.lvar 0) (.con (.int 1)))) (.con (.int 0))) (.seq (.iff (.cmp .ge (.rd (.lix (.lvar 0) (.con (.int 2)))) (.bi .len (.cons (.rd (.lix (.lvar 0) (.con (.int 0)))) .nil))) (.seq (.ret (.ofz (.con (.int 0))))
      .skip) .skip)
      (.seq (.setix (.lvar 0) (.con (.int 1)) (.ofz (.bi .abs (.cons (.ix (.rd (.lix (.lvar 0) (.con (.int 0)))) (.rd (.lix (.lvar 0) (.con (.int 2))))) .nil))))
      (.seq (.setix (.lvar 0) (.con (.int 2)) (.ofz (.bin .add (.rd (.lix (.lvar 0) (.con (.int 2)))) (.con (.int 1)))))
      .skip))) .skip)
      (.seq (.asg 2 (.ofz (.bin .mod (.bi .int (.cons (.rd (.lix (.lvar 0) (.con (.int 1)))) .nil)) (.rd (.lvar 1)))))
      (.seq (.setix (.lvar 0) (.con (.int 1)) (.ofz (.bin .fdiv (.rd (.lix (.lvar 0) (.con (.int 1)))) (.rd (.lvar 1)))))
      (.seq (.ret (.ofz (.rd (.lvar 2))))
      .skip)))))⟩
theorem scf_take : FnScope nf_take pf_take (defScope sf_take) := ⟨rfl, rfl, rfl, by decide +kernel, rfl, by decide +kernel, by decide +kernel⟩
theorem ckf_take : chkS nf_take (defScope sf_take) (pinL 0 df_take.modes) df_take.b (defBody sf_take) = true := by decide +kernel
def nf_part : List Str := ["_law_state_here", "_law_width", "_law_reach", "_law_kind", "_law_bed", "_law_i"]
def pf_part : List Str := ["_law_state_here", "_law_width", "_law_reach"]
def df_part : Dfn := ⟨[.rw, .val, .val], 6, (.seq (.asg 3 (.ofz (.ofr (.call ("_law_take" : Str) (.cons (.arw (.lvar 0)) (.cons (.ava (.ofz (.con (.int 12)))) .nil))))))
      (.seq (.asg 4 (.ofz (.ix (.lst (.cons (.con (.str ("front" : Str))) (.cons (.con (.str ("back" : Str))) .nil))) (.ofr (.call ("_law_take" : Str) (.cons (.arw (.lvar 0)) (.cons (.ava (.ofz (.con (.int 2)))) .nil)))))))
      (.seq (.iff (.cmp .lt (.rd (.lvar 3)) (.con (.int 3))) (.seq (.ret (.ofz (.tup (.cons (.con (.str ("rack" : Str))) (.cons (.bin .sub (.ofr (.call ("_law_take" : Str) (.cons (.arw (.lvar 0)) (.cons (.ava (.ofz (.bin .add (.bin .mul (.con (.int 2)) (.rd (.lvar 2))) (.con (.int 1))))) .nil)))) (.rd (.lvar 2))) .nil)))))
      .skip) .skip)
      (.seq (.asg 5 (.ofz (.ofr (.call ("_law_take" : Str) (.cons (.arw (.lvar 0)) (.cons (.ava (.ofz (.rd (.lvar 1)))) .nil))))))
      (.seq (.iff (.cmp .lt (.rd (.lvar 3)) (.con (.int 6))) (.seq (.ret (.ofz (.tup (.cons (.con (.str ("xfer" : Str))) (.cons (.rd (.lvar 4)) (.cons (.rd (.lvar 5)) .nil))))))
      .skip) .skip)
      (.seq (.iff (.cmp .lt (.rd (.lvar 3)) (.con (.int 9))) (.seq (.ret (.ofz (.tup (.cons (.con (.str ("tuck" : Str))) (.cons (.rd (.lvar 4)) (.cons (.rd (.lvar 5)) (.cons (.ix (.lst (.cons (.con (.str ("abzzzzzy" : Str))) (.cons (.con (.str ("abzzzzzz" : Str))) (.cons (.con (.str ("b" : Str))) .nil)))) (.ofr (.call ("_law_take" : Str) (.cons (.arw (.lvar 0)) (.cons (.ava (.ofz (.con (.int 3)))) .nil))))) .nil)))))))
      .skip) .skip)
      (.seq (.iff (.cmp .lt (.rd (.lvar 3)) (.con (.int 11))) (.seq (.ret (.ofz (.tup (.cons (.con (.str ("knit" : Str))) (.cons (.rd (.lvar 4)) (.cons (.rd (.lvar 5)) (.cons (.ix (.lst (.cons (.con (.str ("abzzzzzy" : Str))) (.cons (.con (.str ("abzzzzzz" : Str))) (.cons (.con (.str ("b" : Str))) .nil)))) (.ofr (.call ("_law_take" : Str) (.cons (.arw (.lvar 0)) (.cons (.ava (.ofz (.con (.int 3)))) .nil))))) .nil)))))))
      .skip) .skip)
      (.seq (.ret (.ofz (.tup (.cons (.con (.str ("drop" : Str))) (.cons (.rd (.lvar 4)) (.cons (.rd (.lvar 5)) .nil))))))
      .skip))))))))⟩
theorem scf_part : FnScope nf_part pf_part (defScope sf_part) := ⟨rfl, rfl, rfl, by decide +kernel, rfl, by decide +kernel, by decide +kernel⟩
theorem ckf_part : chkS nf_part (defScope sf_part) (pinL 0 df_part.modes) df_part.b (defBody sf_part) = true := by decide +kernel
def nf_is_pass : List Str := ["_law_parts", "_law_k", "_law_needles", "_law_makes", "_law_part_here"]
def pf_is_pass : List Str := ["_law_parts"]
def df_is_pass : Dfn := ⟨[.val], 5, (.seq (.iff (.and (.cmp .gt (.bi .len (.cons (.rd (.lvar 0)) .nil)) (.con (.int 1))) (.one (.tru (.bi .any (.cons (.ofr (.ocomp [(("_law_part_here" : Str), 4)] (.ofz (.cmp .eq (.ix (.rd (.lvar 4)) (.con (.int 0))) (.con (.str ("rack" : Str))))) (.tvar 4) (.itv (.rd (.lvar 0))) .nil)) .nil))))) (.seq (.ret (.ofz (.con (.bool false))))
      .skip) .skip)
      (.seq (.fo (.tvar 1) (.range1 (.bi .len (.cons (.rd (.lvar 0)) .nil))) (.seq (.asg 3 (.ofz (.ofr (.ocomp [(("_law_part_here" : Str), 4)] (.ofz (.cmp .isin (.ix (.rd (.lvar 4)) (.con (.int 0))) (.lst (.cons (.con (.str ("knit" : Str))) (.cons (.con (.str ("tuck" : Str))) .nil))))) (.tvar 4) (.itv (.rd (.lvar 0))) .nil))))
      (.seq (.iff (.cmp .ne (.ix (.rd (.lvar 3)) (.rd (.lvar 1))) (.ix (.rd (.lvar 3)) (.con (.int 0)))) (.seq (.ret (.ofz (.con (.bool false))))
      .skip) .skip)
      (.seq (.iff (.and (.not (.tru (.ix (.rd (.lvar 3)) (.con (.int 0))))) (.one (.cmp .ne (.sl (.ix (.rd (.lvar 0)) (.rd (.lvar 1))) .noPart (.part (.bin .add (.con (.int 1)) (.bi .int (.cons (.cmp .ne (.ix (.ix (.rd (.lvar 0)) (.con (.int 0))) (.con (.int 0))) (.con (.str ("rack" : Str)))) .nil))))) (.sl (.ix (.rd (.lvar 0)) (.con (.int 0))) .noPart (.part (.bin .add (.con (.int 1)) (.bi .int (.cons (.cmp .ne (.ix (.ix (.rd (.lvar 0)) (.con (.int 0))) (.con (.int 0))) (.con (.str ("rack" : Str)))) .nil)))))))) (.seq (.ret (.ofz (.con (.bool false))))
      .skip) .skip)
      .skip))))
      (.seq (.asg 2 (.ofz (.ofr (.ocomp [(("_law_part_here" : Str), 4)] (.ofz (.ix (.rd (.lvar 4)) (.con (.int 2)))) (.tvar 4) (.itv (.rd (.lvar 0))) (.cmp .ne (.ix (.rd (.lvar 4)) (.con (.int 0))) (.con (.str ("rack" : Str))))))))
      (.seq (.ret (.ofz (.cmp .isin (.rd (.lvar 2)) (.lst (.cons (.sset (.rd (.lvar 2))) (.cons (.rev (.sset (.rd (.lvar 2)))) .nil))))))
      .skip))))⟩
abbrev rf_is_pass_1 : S := (.seq (.fo (.tvar 1) (.range1 (.bi .len (.cons (.rd (.lvar 0)) .nil))) (.seq (.asg 3 (.ofz (.ofr (.ocomp [(("_law_part_here" : Str), 4)] (.ofz (.cmp .isin (.ix (.rd (.lvar 4)) (.con (.int 0))) (.lst (.cons (.con (.str ("knit" : Str))) (.cons (.con (.str ("tuck" : Str))) .nil))))) (.tvar 4) (.itv (.rd (.lvar 0))) .nil))))
      (.seq (.iff (.cmp .ne (.ix (.rd (.lvar 3)) (.rd (.lvar 1))) (.ix (.rd (.lvar 3)) (.con (.int 0)))) (.seq (.ret (.ofz (.con (.bool false))))
      .skip) .skip)
      (.seq (.iff (.and (.not (.tru (.ix (.rd (.lvar 3)) (.con (.int 0))))) (.one (.cmp .ne (.sl (.ix (.rd (.lvar 0)) (.rd (.lvar 1))) .noPart (.part (.bin .add (.con (.int 1)) (.bi .int (.cons (.cmp .ne (.ix (.ix (.rd (.lvar 0)) (.con (.int 0))) (.con (.int 0))) (.con (.str ("rack" : Str)))) .nil))))) (.sl (.ix (.rd (.lvar 0)) (.con (.int 0))) .noPart (.part (.bin .add (.con (.int 1)) (.bi .int (.cons (.cmp .ne (.ix (.ix (.rd (.lvar 0)) (.con (.int 0))) (.con (.int 0))) (.con (.str ("rack" : Str)))) .nil)))))))) (.seq (.ret (.ofz (.con (.bool false))))
      .skip) .skip)
      .skip))))
      (.seq (.asg 2 (.ofz (.ofr (.ocomp [(("_law_part_here" : Str), 4)] (.ofz (.ix (.rd (.lvar 4)) (.con (.int 2)))) (.tvar 4) (.itv (.rd (.lvar 0))) (.cmp .ne (.ix (.rd (.lvar 4)) (.con (.int 0))) (.con (.str ("rack" : Str))))))))
      (.seq (.ret (.ofz (.cmp .isin (.rd (.lvar 2)) (.lst (.cons (.sset (.rd (.lvar 2))) (.cons (.rev (.sset (.rd (.lvar 2)))) .nil))))))
      .skip)))
abbrev rf_is_pass_2 : S := (.seq (.asg 2 (.ofz (.ofr (.ocomp [(("_law_part_here" : Str), 4)] (.ofz (.ix (.rd (.lvar 4)) (.con (.int 2)))) (.tvar 4) (.itv (.rd (.lvar 0))) (.cmp .ne (.ix (.rd (.lvar 4)) (.con (.int 0))) (.con (.str ("rack" : Str))))))))
      (.seq (.ret (.ofz (.cmp .isin (.rd (.lvar 2)) (.lst (.cons (.sset (.rd (.lvar 2))) (.cons (.rev (.sset (.rd (.lvar 2)))) .nil))))))
      .skip))
theorem scf_is_pass : FnScope nf_is_pass pf_is_pass (defScope sf_is_pass) := ⟨rfl, rfl, rfl, by decide +kernel, rfl, by decide +kernel, by decide +kernel⟩
theorem ckf_is_pass : chkS nf_is_pass (defScope sf_is_pass) (pinL 0 df_is_pass.modes) df_is_pass.b (defBody sf_is_pass) = true := by decide +kernel
def nf_law_cost : List Str := ["_law_code", "_law_count", "_law_start", "_law_end"]
def pf_law_cost : List Str := ["_law_code"]
def df_law_cost : Dfn := ⟨[.val], 4, (.seq (.asg 1 (.ofz (.con (.int 0))))
      (.seq (.asg 2 (.ofz (.con (.int 0))))
      (.seq (.fo (.tvar 3) (.range2 (.con (.int 1)) (.bin .add (.bi .len (.cons (.rd (.lvar 0)) .nil)) (.con (.int 1)))) (.seq (.iff (.or (.cmp .eq (.rd (.lvar 3)) (.bi .len (.cons (.rd (.lvar 0)) .nil))) (.one (.not (.tru (.ofr (.call ("_law_is_pass" : Str) (.cons (.ava (.ofz (.sl (.rd (.lvar 0)) (.part (.rd (.lvar 2))) (.part (.bin .add (.rd (.lvar 3)) (.con (.int 1))))))) .nil))))))) (.seq (.asg 1 (.ofz (.bin .add (.rd (.lvar 1)) (.con (.int 1)))))
      (.seq (.asg 2 (.ofz (.rd (.lvar 3))))
      .skip)) .skip)
      .skip))
      (.seq (.ret (.ofz (.rd (.lvar 1))))
      .skip))))⟩
theorem scf_law_cost : FnScope nf_law_cost pf_law_cost (defScope sf_law_cost) := ⟨rfl, rfl, rfl, by decide +kernel, rfl, by decide +kernel, by decide +kernel⟩
theorem ckf_law_cost : chkS nf_law_cost (defScope sf_law_cost) (pinL 0 df_law_cost.modes) df_law_cost.b (defBody sf_law_cost) = true := by decide +kernel
def nf_law_top : List Str := ["_law_script", "_law_state_here", "_law_code", "_law_n", "_law_told", "_law_part_here", "_law_step", "_law_k"]
def pf_law_top : List Str := ["_law_script"]
def df_law_top : Dfn := ⟨[.val], 8, (.seq (.asg 1 (.call ("_law_state" : Str) (.cons (.ava (.ofz (.rd (.lvar 0)))) .nil)))
      (.seq (.asg 2 (.olst .nil))
      (.seq (.fo (.tvar 3) (.range1 (.bin .add (.ofr (.call ("_law_take" : Str) (.cons (.arw (.lvar 1)) (.cons (.ava (.ofz (.con (.int 12)))) .nil)))) (.bi .len (.cons (.sl (.rd (.lvar 0)) .noPart (.part (.con (.int 6)))) .nil)))) (.seq (.asg 5 (.ofz (.ofr (.call ("_law_part" : Str) (.cons (.arw (.lvar 1)) (.cons (.ava (.ofz (.con (.int 7)))) (.cons (.ava (.ofz (.con (.int 2)))) .nil)))))))
      (.seq (.iff (.cmp .ne (.ix (.rd (.lvar 5)) (.con (.int 0))) (.con (.str ("rack" : Str)))) (.seq (.asg 5 (.ofz (.bin .add (.bin .add (.sl (.rd (.lvar 5)) .noPart (.part (.con (.int 2)))) (.tup (.cons (.bin .add (.ix (.rd (.lvar 5)) (.con (.int 2))) (.con (.int 10))) .nil))) (.sl (.rd (.lvar 5)) (.part (.con (.int 3))) .noPart))))
      .skip) .skip)
      (.seq (.ex (.app (.lvar 2) (.rd (.lvar 5))))
      (.seq (.iff (.and (.cmp .ne (.ix (.rd (.lvar 5)) (.con (.int 0))) (.con (.str ("rack" : Str)))) (.one (.cmp .eq (.ofr (.call ("_law_take" : Str) (.cons (.arw (.lvar 1)) (.cons (.ava (.ofz (.con (.int 2)))) .nil)))) (.con (.int 1))))) (.seq (.asg 6 (.ofz (.ix (.lst (.cons (.neg (.con (.int 2))) (.cons (.neg (.con (.int 1))) (.cons (.con (.int 1)) (.cons (.con (.int 2)) .nil))))) (.ofr (.call ("_law_take" : Str) (.cons (.arw (.lvar 1)) (.cons (.ava (.ofz (.con (.int 4)))) .nil)))))))
      (.seq (.fo (.tvar 7) (.range2 (.con (.int 1)) (.bin .add (.con (.int 1)) (.ofr (.call ("_law_take" : Str) (.cons (.arw (.lvar 1)) (.cons (.ava (.ofz (.con (.int 5)))) .nil)))))) (.seq (.ex (.app (.lvar 2) (.bin .add (.bin .add (.sl (.rd (.lvar 5)) .noPart (.part (.con (.int 2)))) (.tup (.cons (.bin .add (.ix (.rd (.lvar 5)) (.con (.int 2))) (.bin .mul (.rd (.lvar 6)) (.rd (.lvar 7)))) .nil))) (.sl (.rd (.lvar 5)) (.part (.con (.int 3))) .noPart))))
      .skip))
      .skip)) .skip)
      .skip)))))
      (.seq (.asg 4 (.ofz (.ofr (.call ("cost" : Str) (.cons (.ava (.ofz (.fz 2))) .nil)))))
      (.seq (.ret (.ofz (.and (.ofr (.call ("_law_is_integer" : Str) (.cons (.ava (.ofz (.rd (.lvar 4)))) .nil))) (.one (.cmp .eq (.rd (.lvar 4)) (.ofr (.call ("_law_cost" : Str) (.cons (.ava (.ofz (.fz 2))) .nil))))))))
      .skip)))))⟩
theorem scf_law_top : FnScope nf_law_top pf_law_top (defScope sf_law_top) := ⟨rfl, rfl, rfl, by decide +kernel, rfl, by decide +kernel, by decide +kernel⟩
theorem ckf_law_top : chkS nf_law_top (defScope sf_law_top) (pinL 0 df_law_top.modes) df_law_top.b (defBody sf_law_top) = true := by decide +kernel
/-! ### the table -/
def cons0 : List (Str × PyData) := [(("MAKES" : Str), (.tuple [(.str ("knit" : Str)), (.str ("tuck" : Str))]))]
def hit0 : Str → Str → Bool := fun _ _ => false
def t_0 : Tab := {}
def gf_sort_of : Gl := mkG cons0 t_0
def vf_sort_of : Fn := fnD gf_sort_of hit0 df_sort_of
def tf_sort_of : Tab := { t_0 with fs := (("sort_of" : Str), vf_sort_of) :: t_0.fs }
def gf_goes_on : Gl := mkG cons0 tf_sort_of
def vf_goes_on : Fn := fnD gf_goes_on hit0 df_goes_on
def tf_goes_on : Tab := { tf_sort_of with fs := (("goes_on" : Str), vf_goes_on) :: tf_sort_of.fs }
def gf_cost : Gl := mkG cons0 tf_goes_on
def vf_cost : Fn := fnD gf_cost hit0 df_cost
def tf_cost : Tab := { tf_goes_on with fs := (("cost" : Str), vf_cost) :: tf_goes_on.fs }
def gf_is_integer : Gl := mkG cons0 tf_cost
def vf_is_integer : Fn := fnD gf_is_integer hit0 df_is_integer
def tf_is_integer : Tab := { tf_cost with fs := (("_law_is_integer" : Str), vf_is_integer) :: tf_cost.fs }
def gf_state : Gl := mkG cons0 tf_is_integer
def vf_state : Fn := fnD gf_state hit0 df_state
def tf_state : Tab := { tf_is_integer with fs := (("_law_state" : Str), vf_state) :: tf_is_integer.fs }
def gf_take : Gl := mkG cons0 tf_state
def vf_take : Fn := fnD gf_take hit0 df_take
def tf_take : Tab := { tf_state with fs := (("_law_take" : Str), vf_take) :: tf_state.fs }
def gf_part : Gl := mkG cons0 tf_take
def vf_part : Fn := fnD gf_part hit0 df_part
def tf_part : Tab := { tf_take with fs := (("_law_part" : Str), vf_part) :: tf_take.fs }
def gf_is_pass : Gl := mkG cons0 tf_part
def vf_is_pass : Fn := fnD gf_is_pass hit0 df_is_pass
def tf_is_pass : Tab := { tf_part with fs := (("_law_is_pass" : Str), vf_is_pass) :: tf_part.fs }
def gf_law_cost : Gl := mkG cons0 tf_is_pass
def vf_law_cost : Fn := fnD gf_law_cost hit0 df_law_cost
def tf_law_cost : Tab := { tf_is_pass with fs := (("_law_cost" : Str), vf_law_cost) :: tf_is_pass.fs }
def gf_law_top : Gl := mkG cons0 tf_law_cost
def vf_law_top : Fn := fnD gf_law_top hit0 df_law_top
def tf_law_top : Tab := { tf_law_cost with fs := (("law" : Str), vf_law_top) :: tf_law_cost.fs }
theorem cn_f_sort_of_MAKES : gf_sort_of.con ("MAKES" : Str) = some (.tuple [(.str ("knit" : Str)), (.str ("tuck" : Str))]) := by simp [gf_sort_of, mkG, lookA, ofStr_eq, cons0]
theorem fn_f_goes_on_f_sort_of : gf_goes_on.fn ("sort_of" : Str) = some vf_sort_of := by simp [gf_goes_on, mkG, lookA, ofStr_eq, t_0, tf_sort_of]
theorem fn_f_cost_f_goes_on : gf_cost.fn ("goes_on" : Str) = some vf_goes_on := by simp [gf_cost, mkG, lookA, ofStr_eq, t_0, tf_sort_of, tf_goes_on]
theorem fn_f_part_f_take : gf_part.fn ("_law_take" : Str) = some vf_take := by simp [gf_part, mkG, lookA, ofStr_eq, t_0, tf_sort_of, tf_goes_on, tf_cost, tf_is_integer, tf_state, tf_take]
theorem fn_f_law_cost_f_is_pass : gf_law_cost.fn ("_law_is_pass" : Str) = some vf_is_pass := by simp [gf_law_cost, mkG, lookA, ofStr_eq, t_0, tf_sort_of, tf_goes_on, tf_cost, tf_is_integer, tf_state, tf_take, tf_part, tf_is_pass]
theorem fn_f_law_top_f_law_cost : gf_law_top.fn ("_law_cost" : Str) = some vf_law_cost := by simp [gf_law_top, mkG, lookA, ofStr_eq, t_0, tf_sort_of, tf_goes_on, tf_cost, tf_is_integer, tf_state, tf_take, tf_part, tf_is_pass, tf_law_cost]
theorem fn_f_law_top_f_is_integer : gf_law_top.fn ("_law_is_integer" : Str) = some vf_is_integer := by simp [gf_law_top, mkG, lookA, ofStr_eq, t_0, tf_sort_of, tf_goes_on, tf_cost, tf_is_integer, tf_state, tf_take, tf_part, tf_is_pass, tf_law_cost]
theorem fn_f_law_top_f_part : gf_law_top.fn ("_law_part" : Str) = some vf_part := by simp [gf_law_top, mkG, lookA, ofStr_eq, t_0, tf_sort_of, tf_goes_on, tf_cost, tf_is_integer, tf_state, tf_take, tf_part, tf_is_pass, tf_law_cost]
theorem fn_f_law_top_f_state : gf_law_top.fn ("_law_state" : Str) = some vf_state := by simp [gf_law_top, mkG, lookA, ofStr_eq, t_0, tf_sort_of, tf_goes_on, tf_cost, tf_is_integer, tf_state, tf_take, tf_part, tf_is_pass, tf_law_cost]
theorem fn_f_law_top_f_take : gf_law_top.fn ("_law_take" : Str) = some vf_take := by simp [gf_law_top, mkG, lookA, ofStr_eq, t_0, tf_sort_of, tf_goes_on, tf_cost, tf_is_integer, tf_state, tf_take, tf_part, tf_is_pass, tf_law_cost]
theorem fn_f_law_top_f_cost : gf_law_top.fn ("cost" : Str) = some vf_cost := by simp [gf_law_top, mkG, lookA, ofStr_eq, t_0, tf_sort_of, tf_goes_on, tf_cost, tf_is_integer, tf_state, tf_take, tf_part, tf_is_pass, tf_law_cost]
theorem rw_f_sort_of : rwF vf_sort_of = false := rfl
theorem m_f_sort_of : vf_sort_of.modes = [.val] := rfl
theorem rw_f_goes_on : rwF vf_goes_on = false := rfl
theorem m_f_goes_on : vf_goes_on.modes = [.val, .val, .val] := rfl
theorem rw_f_cost : rwF vf_cost = false := rfl
theorem m_f_cost : vf_cost.modes = [.val] := rfl
theorem rw_f_is_integer : rwF vf_is_integer = false := rfl
theorem m_f_is_integer : vf_is_integer.modes = [.val] := rfl
theorem rw_f_state : rwF vf_state = false := rfl
theorem m_f_state : vf_state.modes = [.val] := rfl
theorem rw_f_take : rwF vf_take = true := rfl
theorem m_f_take : vf_take.modes = [.rw, .val] := rfl
theorem rw_f_part : rwF vf_part = true := rfl
theorem m_f_part : vf_part.modes = [.rw, .val, .val] := rfl
theorem rw_f_is_pass : rwF vf_is_pass = false := rfl
theorem m_f_is_pass : vf_is_pass.modes = [.val] := rfl
theorem rw_f_law_cost : rwF vf_law_cost = false := rfl
theorem m_f_law_cost : vf_law_cost.modes = [.val] := rfl
theorem rw_f_law_top : rwF vf_law_top = false := rfl
theorem m_f_law_top : vf_law_top.modes = [.val] := rfl
theorem all_mk {P : Program} {w : World} {K : PySem.W.Frag} {h : Heap} {mg : Str → Option Value} {fa : Addr} (KX : K.In h) (G : h.Ns mainGlobals mg) (hfa : mg "law" = some (.ref fa))
    {o0 a0 : Option Addr} {q0 : Array (Option Value)} {x0 y0 z0 u0 w0 r0 : Value} {f0 : Addr}
    {o1 a1 : Option Addr} {q1 : Array (Option Value)} {x1 y1 z1 u1 w1 r1 : Value} {f1 : Addr}
    {o2 a2 : Option Addr} {q2 : Array (Option Value)} {x2 y2 z2 u2 w2 r2 : Value} {f2 : Addr}
    {o3 a3 : Option Addr} {q3 : Array (Option Value)} {x3 y3 z3 u3 w3 r3 : Value} {f3 : Addr}
    {o4 a4 : Option Addr} {q4 : Array (Option Value)} {x4 y4 z4 u4 w4 r4 : Value} {f4 : Addr}
    {o5 a5 : Option Addr} {q5 : Array (Option Value)} {x5 y5 z5 u5 w5 r5 : Value} {f5 : Addr}
    {o6 a6 : Option Addr} {q6 : Array (Option Value)} {x6 y6 z6 u6 w6 r6 : Value} {f6 : Addr}
    {o7 a7 : Option Addr} {q7 : Array (Option Value)} {x7 y7 z7 u7 w7 r7 : Value} {f7 : Addr}
    {o8 a8 : Option Addr} {q8 : Array (Option Value)} {x8 y8 z8 u8 w8 r8 : Value} {f8 : Addr}
    {o9 a9 : Option Addr} {q9 : Array (Option Value)} {x9 y9 z9 u9 w9 r9 : Value} {f9 : Addr}
    {e0 : Addr} {h0 : Option Addr} {i0 : Nat} {j0 : Array (Option Value)} {k0_0 : Tok} {k0_1 : Tok}
    (a_0 : PySem.W.nsIn K mainGlobals ("sort_of" : Str) = some (some (.ref f0)))
    (l_0 : K.lookup f0 = some ⟨x0, o0, .func (PySem.W.fnOf ("sort_of" : Str) ("sort_of" : Str) (defArgs sf_sort_of) (defBody sf_sort_of) (defScope sf_sort_of) .none y0 z0 u0 a0 w0 r0), q0⟩)
    (c_0 : PySem.W.codeIn K w0 ("sort_of" : Str) = true)
    (k_0 : PySem.W.keepIn K (.ref f0) = true)
    (a_1 : PySem.W.nsIn K mainGlobals ("goes_on" : Str) = some (some (.ref f1)))
    (l_1 : K.lookup f1 = some ⟨x1, o1, .func (PySem.W.fnOf ("goes_on" : Str) ("goes_on" : Str) (defArgs sf_goes_on) (defBody sf_goes_on) (defScope sf_goes_on) .none y1 z1 u1 a1 w1 r1), q1⟩)
    (c_1 : PySem.W.codeIn K w1 ("goes_on" : Str) = true)
    (k_1 : PySem.W.keepIn K (.ref f1) = true)
    (a_2 : PySem.W.nsIn K mainGlobals ("cost" : Str) = some (some (.ref f2)))
    (l_2 : K.lookup f2 = some ⟨x2, o2, .func (PySem.W.fnOf ("cost" : Str) ("cost" : Str) (defArgs sf_cost) (defBody sf_cost) (defScope sf_cost) .none y2 z2 u2 a2 w2 r2), q2⟩)
    (c_2 : PySem.W.codeIn K w2 ("cost" : Str) = true)
    (k_2 : PySem.W.keepIn K (.ref f2) = true)
    (a_3 : PySem.W.nsIn K mainGlobals ("_law_is_integer" : Str) = some (some (.ref f3)))
    (l_3 : K.lookup f3 = some ⟨x3, o3, .func (PySem.W.fnOf ("_law_is_integer" : Str) ("_law_is_integer" : Str) (defArgs sf_is_integer) (defBody sf_is_integer) (defScope sf_is_integer) .none y3 z3 u3 a3 w3 r3), q3⟩)
    (c_3 : PySem.W.codeIn K w3 ("_law_is_integer" : Str) = true)
    (k_3 : PySem.W.keepIn K (.ref f3) = true)
    (a_4 : PySem.W.nsIn K mainGlobals ("_law_state" : Str) = some (some (.ref f4)))
    (l_4 : K.lookup f4 = some ⟨x4, o4, .func (PySem.W.fnOf ("_law_state" : Str) ("_law_state" : Str) (defArgs sf_state) (defBody sf_state) (defScope sf_state) .none y4 z4 u4 a4 w4 r4), q4⟩)
    (c_4 : PySem.W.codeIn K w4 ("_law_state" : Str) = true)
    (k_4 : PySem.W.keepIn K (.ref f4) = true)
    (a_5 : PySem.W.nsIn K mainGlobals ("_law_take" : Str) = some (some (.ref f5)))
    (l_5 : K.lookup f5 = some ⟨x5, o5, .func (PySem.W.fnOf ("_law_take" : Str) ("_law_take" : Str) (defArgs sf_take) (defBody sf_take) (defScope sf_take) .none y5 z5 u5 a5 w5 r5), q5⟩)
    (c_5 : PySem.W.codeIn K w5 ("_law_take" : Str) = true)
    (k_5 : PySem.W.keepIn K (.ref f5) = true)
    (a_6 : PySem.W.nsIn K mainGlobals ("_law_part" : Str) = some (some (.ref f6)))
    (l_6 : K.lookup f6 = some ⟨x6, o6, .func (PySem.W.fnOf ("_law_part" : Str) ("_law_part" : Str) (defArgs sf_part) (defBody sf_part) (defScope sf_part) .none y6 z6 u6 a6 w6 r6), q6⟩)
    (c_6 : PySem.W.codeIn K w6 ("_law_part" : Str) = true)
    (k_6 : PySem.W.keepIn K (.ref f6) = true)
    (a_7 : PySem.W.nsIn K mainGlobals ("_law_is_pass" : Str) = some (some (.ref f7)))
    (l_7 : K.lookup f7 = some ⟨x7, o7, .func (PySem.W.fnOf ("_law_is_pass" : Str) ("_law_is_pass" : Str) (defArgs sf_is_pass) (defBody sf_is_pass) (defScope sf_is_pass) .none y7 z7 u7 a7 w7 r7), q7⟩)
    (c_7 : PySem.W.codeIn K w7 ("_law_is_pass" : Str) = true)
    (k_7 : PySem.W.keepIn K (.ref f7) = true)
    (a_8 : PySem.W.nsIn K mainGlobals ("_law_cost" : Str) = some (some (.ref f8)))
    (l_8 : K.lookup f8 = some ⟨x8, o8, .func (PySem.W.fnOf ("_law_cost" : Str) ("_law_cost" : Str) (defArgs sf_law_cost) (defBody sf_law_cost) (defScope sf_law_cost) .none y8 z8 u8 a8 w8 r8), q8⟩)
    (c_8 : PySem.W.codeIn K w8 ("_law_cost" : Str) = true)
    (k_8 : PySem.W.keepIn K (.ref f8) = true)
    (a_9 : PySem.W.nsIn K mainGlobals ("law" : Str) = some (some (.ref f9)))
    (l_9 : K.lookup f9 = some ⟨x9, o9, .func (PySem.W.fnOf ("law" : Str) ("law" : Str) (defArgs sf_law_top) (defBody sf_law_top) (defScope sf_law_top) .none y9 z9 u9 a9 w9 r9), q9⟩)
    (c_9 : PySem.W.codeIn K w9 ("law" : Str) = true)
    (k_9 : PySem.W.keepIn K (.ref f9) = true)
    (b_len : PySem.W.nsIn K mainGlobals ("len" : Str) = some none)
    (b_abs : PySem.W.nsIn K mainGlobals ("abs" : Str) = some none)
    (b_int : PySem.W.nsIn K mainGlobals ("int" : Str) = some none)
    (b_str : PySem.W.nsIn K mainGlobals ("str" : Str) = some none)
    (b_repr : PySem.W.nsIn K mainGlobals ("repr" : Str) = some none)
    (b_sum : PySem.W.nsIn K mainGlobals ("sum" : Str) = some none)
    (b_any : PySem.W.nsIn K mainGlobals ("any" : Str) = some none)
    (b_all : PySem.W.nsIn K mainGlobals ("all" : Str) = some none)
    (b_min : PySem.W.nsIn K mainGlobals ("min" : Str) = some none)
    (b_max : PySem.W.nsIn K mainGlobals ("max" : Str) = some none)
    (b_sorted : PySem.W.nsIn K mainGlobals ("sorted" : Str) = some none)
    (b_list : PySem.W.nsIn K mainGlobals ("list" : Str) = some none)
    (b_tuple : PySem.W.nsIn K mainGlobals ("tuple" : Str) = some none)
    (b_range : PySem.W.nsIn K mainGlobals ("range" : Str) = some none)
    (b_reversed : PySem.W.nsIn K mainGlobals ("reversed" : Str) = some none)
    (b_set : PySem.W.nsIn K mainGlobals ("set" : Str) = some none)
    (b_isinstance : PySem.W.nsIn K mainGlobals ("isinstance" : Str) = some none)
    (b_bool : PySem.W.nsIn K mainGlobals ("bool" : Str) = some none)
    (m_0 : PySem.W.nsIn K mainGlobals ("MAKES" : Str) = some (some (.ref e0)))
    (p_0 : K.lookup e0 = some ⟨.type "tuple", h0, .seq #[.str ("knit" : Str) k0_0, .str ("tuck" : Str) k0_1] i0, j0⟩)
    : ∃ fd : FuncData, (∀ (s : Shared) (v : Value), BindsTo s fd ⟨[v], []⟩ [(("_law_script" : Str), v)]) ∧ ∀ base : Heap, K.In base → base.Ns mainGlobals mg → FnOkG ⟨P, w, K, mg, base⟩ 10 fa fd [("_law_script" : Str)] (spOf ⟨P, w, K, mg, base⟩ vf_law_top) := by
  have e := hfa.symm.trans (PySem.W.mg_of KX G a_9)
  cases e
  refine ⟨PySem.W.fnOf ("law" : Str) ("law" : Str) (defArgs sf_law_top) (defBody sf_law_top) (defScope sf_law_top) .none y9 z9 u9 a9 w9 r9, fun s v => .of_eq rfl, fun base _ _ => ?_⟩
  have blt : Blt ⟨P, w, K, mg, base⟩ := ⟨fun f => by cases f <;> first | exact PySem.W.mg_none_of KX G b_len | exact PySem.W.mg_none_of KX G b_abs | exact PySem.W.mg_none_of KX G b_int | exact PySem.W.mg_none_of KX G b_str | exact PySem.W.mg_none_of KX G b_repr | exact PySem.W.mg_none_of KX G b_sum | exact PySem.W.mg_none_of KX G b_any | exact PySem.W.mg_none_of KX G b_all | exact PySem.W.mg_none_of KX G b_min | exact PySem.W.mg_none_of KX G b_max | exact PySem.W.mg_none_of KX G b_sorted | exact PySem.W.mg_none_of KX G b_list | exact PySem.W.mg_none_of KX G b_tuple, PySem.W.mg_none_of KX G b_range, PySem.W.mg_none_of KX G b_reversed, PySem.W.mg_none_of KX G b_set, PySem.W.mg_none_of KX G b_isinstance, PySem.W.mg_none_of KX G b_bool⟩
  have con : ConOk ⟨P, w, K, mg, base⟩ cons0 := (con_cons ⟨_, .ref e0, PySem.W.mg_of KX G m_0, rfl, .tup (xs := [.str ("knit" : Str), .str ("tuck" : Str)]) (.inr ⟨_, _, _, p_0, rfl, rfl, (show 2 ≤ sizeLine by decide), (.cons ⟨_, rfl⟩ (.cons ⟨_, rfl⟩ .nil))⟩) (.cons (.str _) (.cons (.str _) .nil))⟩ con_nil)
  have T0 : TabOk ⟨P, w, K, mg, base⟩ 0 t_0 := tab_nil
  have F0 := fun_mk (st := sf_sort_of) l_0 c_0 k_0
  have G0 := fun_g (C := ⟨P, w, K, mg, base⟩) (hit := hit0) (gok_mk blt con T0) df_sort_of F0 (PySem.W.mg_of KX G a_0) scf_sort_of rfl rfl ckf_sort_of (F0.binds fun _ _ _ _ _ _ us hl => match us, hl with | [_], _ => rfl)
  have T1 : TabOk ⟨P, w, K, mg, base⟩ 1 tf_sort_of := tab_cons G0.1 T0
  have F1 := fun_mk (st := sf_goes_on) l_1 c_1 k_1
  have G1 := fun_g (C := ⟨P, w, K, mg, base⟩) (hit := hit0) (gok_mk blt con T1) df_goes_on F1 (PySem.W.mg_of KX G a_1) scf_goes_on rfl rfl ckf_goes_on (F1.binds fun _ _ _ _ _ _ us hl => match us, hl with | [_, _, _], _ => rfl)
  have T2 : TabOk ⟨P, w, K, mg, base⟩ 2 tf_goes_on := tab_cons G1.1 T1
  have F2 := fun_mk (st := sf_cost) l_2 c_2 k_2
  have G2 := fun_g (C := ⟨P, w, K, mg, base⟩) (hit := hit0) (gok_mk blt con T2) df_cost F2 (PySem.W.mg_of KX G a_2) scf_cost rfl rfl ckf_cost (F2.binds fun _ _ _ _ _ _ us hl => match us, hl with | [_], _ => rfl)
  have T3 : TabOk ⟨P, w, K, mg, base⟩ 3 tf_cost := tab_cons G2.1 T2
  have F3 := fun_mk (st := sf_is_integer) l_3 c_3 k_3
  have G3 := fun_g (C := ⟨P, w, K, mg, base⟩) (hit := hit0) (gok_mk blt con T3) df_is_integer F3 (PySem.W.mg_of KX G a_3) scf_is_integer rfl rfl ckf_is_integer (F3.binds fun _ _ _ _ _ _ us hl => match us, hl with | [_], _ => rfl)
  have T4 : TabOk ⟨P, w, K, mg, base⟩ 4 tf_is_integer := tab_cons G3.1 T3
  have F4 := fun_mk (st := sf_state) l_4 c_4 k_4
  have G4 := fun_g (C := ⟨P, w, K, mg, base⟩) (hit := hit0) (gok_mk blt con T4) df_state F4 (PySem.W.mg_of KX G a_4) scf_state rfl rfl ckf_state (F4.binds fun _ _ _ _ _ _ us hl => match us, hl with | [_], _ => rfl)
  have T5 : TabOk ⟨P, w, K, mg, base⟩ 5 tf_state := tab_cons G4.1 T4
  have F5 := fun_mk (st := sf_take) l_5 c_5 k_5
  have G5 := fun_g (C := ⟨P, w, K, mg, base⟩) (hit := hit0) (gok_mk blt con T5) df_take F5 (PySem.W.mg_of KX G a_5) scf_take rfl rfl ckf_take (F5.binds fun _ _ _ _ _ _ us hl => match us, hl with | [_, _], _ => rfl)
  have T6 : TabOk ⟨P, w, K, mg, base⟩ 6 tf_take := tab_cons G5.1 T5
  have F6 := fun_mk (st := sf_part) l_6 c_6 k_6
  have G6 := fun_g (C := ⟨P, w, K, mg, base⟩) (hit := hit0) (gok_mk blt con T6) df_part F6 (PySem.W.mg_of KX G a_6) scf_part rfl rfl ckf_part (F6.binds fun _ _ _ _ _ _ us hl => match us, hl with | [_, _, _], _ => rfl)
  have T7 : TabOk ⟨P, w, K, mg, base⟩ 7 tf_part := tab_cons G6.1 T6
  have F7 := fun_mk (st := sf_is_pass) l_7 c_7 k_7
  have G7 := fun_g (C := ⟨P, w, K, mg, base⟩) (hit := hit0) (gok_mk blt con T7) df_is_pass F7 (PySem.W.mg_of KX G a_7) scf_is_pass rfl rfl ckf_is_pass (F7.binds fun _ _ _ _ _ _ us hl => match us, hl with | [_], _ => rfl)
  have T8 : TabOk ⟨P, w, K, mg, base⟩ 8 tf_is_pass := tab_cons G7.1 T7
  have F8 := fun_mk (st := sf_law_cost) l_8 c_8 k_8
  have G8 := fun_g (C := ⟨P, w, K, mg, base⟩) (hit := hit0) (gok_mk blt con T8) df_law_cost F8 (PySem.W.mg_of KX G a_8) scf_law_cost rfl rfl ckf_law_cost (F8.binds fun _ _ _ _ _ _ us hl => match us, hl with | [_], _ => rfl)
  have T9 : TabOk ⟨P, w, K, mg, base⟩ 9 tf_law_cost := tab_cons G8.1 T8
  have F9 := fun_mk (st := sf_law_top) l_9 c_9 k_9
  have G9 := fun_g (C := ⟨P, w, K, mg, base⟩) (hit := hit0) (gok_mk blt con T9) df_law_top F9 (PySem.W.mg_of KX G a_9) scf_law_top rfl rfl ckf_law_top (F9.binds fun _ _ _ _ _ _ us hl => match us, hl with | [_], _ => rfl)
  have T10 : TabOk ⟨P, w, K, mg, base⟩ 10 tf_law_top := tab_cons G9.1 T9
  exact G9.2
end Mp

end
section
set_option Elab.async false
set_option linter.all false
set_option maxRecDepth 100000
set_option maxHeartbeats 2000000
set_option autoImplicit false
open PySem PySem.Spec PyProof.Rows L2 TL
namespace Mp
local macro_rules | `(tactic| walk_at "mp") => `(tactic| repeat (first | with_reducible refine StB_go ?_ | simp -implicitDefEqProofs only [st_seq, st_skip, st_pss, st_brk, st_cont, st_ret, st_retN, st_ex, st_asg, st_asgT, st_iff, st_setix, wo_comp, st_for, turnQ_nx, turnQ_ct, turnQ_bk, turnQ_ret, whileQ_nx, whileQ_ct, whileQ_bk, whileQ_ret, seqK_nx, seqK_ret, seqK_bk, seqK_ct, retQ_ret, retQ_nx, retX_eq,
  wp_ok, wp_ofO, wp_raise, wp_bad, callF_wp, we_con, we_glob, we_rd, we_pk, we_fz, we_neg, we_isi, we_rev, we_sset, we_tup, we_lst, we_bin, we_cmp, we_chain, we_and, we_or, we_not, we_one, we_ife, we_ix, we_sl, wpt_no, wpt_part, we_bi, we_mt0, we_mt1, we_ofr, we_app, we_ext, we_revL, we_pop, we_popAt,
  wes_nil, wes_cons, wt_nil, wt_and, wt_or, wt_not, wt_one, wt_cmp, wt_chain, wt_tru, wl_var, wl_fld, wl_ix, wl_key, wl_nk, wa_nil, wa_cons, wa_ava, wa_aro, wa_arw, wo_fz, wo_mv, wo_lst, wo_list, wo_range, wo_call, wo_meth, wo_make, isIns_eq, isInsT_ins, rwF_rw, st_setfld, st_raise, st_tryx, goH_some, goH_none, rh_nil, rh_cons, hok_nil, hok_cons, off_none, off_some, offB_no, offB_fz, offB_opt, hs_fall, hs_ret, ifK_t, ifK_f, hs_ifr, hb_b, hx_con, hx_fld, hx_isi, tupK_s, hx_tupE, andK_t, andK_f, orK_f, orK_t, notK_b, hx_and, hx_or, hx_not, hx_one, consK_s, hxs_nil, hxs_cons, List.zip_cons_cons, List.zip_nil_left, List.reverse_cons, List.reverse_nil, List.mem_cons, List.not_mem_nil, lookA, forK_nx, forK_ct, forK_bk, forK_ret, forR_nil, Option.getD_some, Option.isNone_none, lookA, putA, wos_nil, wos_cons, wi_r1, wi_r2, wi_r3, wi_rev, wi_itv, wi_itt, wi_its, wi_lkv,
  plS1_own, plS1_ro, plS1_al, rtS_own, rtS_ro, owS_own, readP_eq, ownP_eq, writeP_eq, dim_eq, setV_eq, getP_nil, getP_ix, getP_fld, getP_key, getP_nk, setP_nil, setP_ix, setP_fld, setP_key, setP_nk, late_nil, late_cons, lateA_val, lateA_nil, lateA_cons, tree_val, tree_rw, tree_ro, mok_nil, mok_val, mok_ro, mok_rw,
  treesOf_nil, treesOf_cons, rootsOk_nil, rootsOk_val, rootsOk_rw, rootsOk_ro, okRw_val, okRw_pth, okRo_val, okRo_rw, okRo_ro, backA_nil, backA_rw, backA_ro, backA_val, outT_nil, outT_rw, outT_val, outT_ro, intD_int, boolD_bool, strD1_str, fzT_fz, lsT_ls, lisD_list, insT_ins, dkT_dk, dnT_dn, seqD_list, seqD_tuple, tupD_tuple, isLs_eq,
  setT_eq, atS, canS_no, canS_own, canS_al, canS_opt, dropAl_no, dA_own, dA_ro, dropAl_al, dropAl_opt, dimS_no, dS_own, dimS_al, dimS_opt, quiet, data_fz, data_ls, bindT, slotsOf, slotOf, startE,
  List.map_cons, List.map_nil, List.set_cons_zero, List.set_cons_succ, List.length_cons, List.length_nil, List.append_nil, List.nil_append, List.cons_append, List.getElem?_cons_zero, List.getElem?_cons_succ, List.all_cons, List.all_nil, List.replicate_succ, List.replicate_zero,
  Bool.true_and, Bool.and_true, Bool.false_and, Bool.and_false, Bool.true_or, Bool.or_true, Bool.false_or, Bool.or_false, Bool.not_true, Bool.not_false, Bool.and_self, Option.some.injEq, exists_eq_left', exists_eq_left, true_and, and_true, ite_true, ite_false, if_true, if_false, reduceCtorEq, not_true_eq_false, not_false_eq_true, Option.bind_some, Option.map_some, Option.isSome_some, Bool.false_eq_true, reduceIte, nc0, nc1, nc2, nc3, nc4, nc5, nc6, nc7, nc8, nc9, nc10, nc11, nc12, nc13, nc14, nc15, nc16, ex_if, ex_ifm, ex_map, ex_bind, Bool.not_eq_true', decide_eq_true_eq, decide_true, decide_false,
  String.reduceEq, String.reduceNe, Nat.reduceEqDiff, Int.reduceAdd, Int.reduceSub, Int.reduceMul, Int.reduceNeg, Int.reduceLT, Int.reduceLE, Int.reduceEq, Int.reduceToNat, Int.reduceNe, gt_iff_lt, ge_iff_le, Nat.reduceLT, Nat.zero_lt_succ, Nat.reduceAdd, Nat.reduceSub, Nat.reduceLeDiff, sizeLine, Nat.reducePow, Nat.zero_add, Nat.add_zero, ne_eq,
  wipeOk_no, wipeOk_own, wipeOk_opt, wipe_nil, wipe_cons, bkS_no, bkS_own, bkS_opt, back_nil, back_cons, lk_r1, lk_r2, lk_r3, lk_rev, lk_itv, lk_itt, lk_its, unlk_r1, unlk_r2, unlk_r3, unlk_rev, unlk_itv, unlk_itt, unlk_its, atI_0, atI_1, atI_2, atI_3, atI_4, atI_5,
  r_listL, r_listT, cut2_3, cut2_4, cut3_3, cut3_4, r_tupL, r_tupT, isi_i, isi_l, isi_t, r_mulI, r_modI, r_fdivI, r_addS, r_addL, r_addT, r_mulL', r_slL, r_slT, r_slS, r_ixS, r_lenS, r_strI, r_strS, r_intS, r_any, r_all, r_sum, r_min2, r_max2, r_truI, r_truB, r_truL, r_truT, r_truN, r_split, r_inS, r_notinS, r_inT1, r_niT1, r_inT2, r_niT2, r_inT3, r_niT3, r_inT4, r_niT4, r_inT5, r_niT5, r_inT6, r_niT6, or_true, true_or, or_false, false_or, or_self, r_eqSS, r_neSS, strOk_ofString, ofStr_eq, r_eqII, r_neII, r_lt, r_le, r_gt, r_ge, r_add, r_sub, r_int, r_intB, r_abs, r_lenL, r_lenT, r_ixL, r_ixT, cn_f_sort_of_MAKES, fn_f_goes_on_f_sort_of, fn_f_cost_f_goes_on, fn_f_part_f_take, fn_f_law_cost_f_is_pass, fn_f_law_top_f_law_cost, fn_f_law_top_f_is_integer, fn_f_law_top_f_part, fn_f_law_top_f_state, fn_f_law_top_f_take, fn_f_law_top_f_cost, m_f_sort_of, rw_f_sort_of, m_f_goes_on, rw_f_goes_on, m_f_cost, rw_f_cost, m_f_is_integer, rw_f_is_integer, m_f_state, rw_f_state, m_f_take, rw_f_take, m_f_part, rw_f_part, m_f_is_pass, rw_f_is_pass, m_f_law_cost, rw_f_law_cost, m_f_law_top, rw_f_law_top]))

local macro_rules | `(tactic| walk_at "mb") => `(tactic| simp only [bindT, setT_eq, setV_eq, atS, canS_no, canS_own, canS_al, canS_opt, dropAl_no, dA_own, dA_ro, dropAl_al, dropAl_opt, List.map_cons, List.map_nil, List.set_cons_zero, List.set_cons_succ, Option.some.injEq, exists_eq_left', exists_eq_left, if_true, reduceIte, Nat.reduceAdd, lk_r1, lk_r2, lk_r3, lk_rev, lk_itv, lk_itt, lk_its, wipeOk_no, wipeOk_own, wipeOk_opt, wipe_nil, wipe_cons, Option.bind_some])

local macro_rules | `(tactic| walk_at "m1") => `(tactic| simp -implicitDefEqProofs only [st_seq, st_skip, st_pss, st_brk, st_cont, st_ret, st_retN, st_ex, st_asg, st_asgT, st_iff, st_setix, wo_comp, st_for, turnQ_nx, turnQ_ct, turnQ_bk, turnQ_ret, whileQ_nx, whileQ_ct, whileQ_bk, whileQ_ret, seqK_nx, seqK_ret, seqK_bk, seqK_ct, retQ_ret, retQ_nx, retX_eq,
  wp_ok, wp_ofO, wp_raise, wp_bad, callF_wp, we_con, we_glob, we_rd, we_pk, we_fz, we_neg, we_isi, we_rev, we_sset, we_tup, we_lst, we_bin, we_cmp, we_chain, we_and, we_or, we_not, we_one, we_ife, we_ix, we_sl, wpt_no, wpt_part, we_bi, we_mt0, we_mt1, we_ofr, we_app, we_ext, we_revL, we_pop, we_popAt,
  wes_nil, wes_cons, wt_nil, wt_and, wt_or, wt_not, wt_one, wt_cmp, wt_chain, wt_tru, wl_var, wl_fld, wl_ix, wl_key, wl_nk, wa_nil, wa_cons, wa_ava, wa_aro, wa_arw, wo_fz, wo_mv, wo_lst, wo_list, wo_range, wo_call, wo_meth, wo_make, isIns_eq, isInsT_ins, rwF_rw, st_setfld, st_raise, st_tryx, goH_some, goH_none, rh_nil, rh_cons, hok_nil, hok_cons, off_none, off_some, offB_no, offB_fz, offB_opt, hs_fall, hs_ret, ifK_t, ifK_f, hs_ifr, hb_b, hx_con, hx_fld, hx_isi, tupK_s, hx_tupE, andK_t, andK_f, orK_f, orK_t, notK_b, hx_and, hx_or, hx_not, hx_one, consK_s, hxs_nil, hxs_cons, List.zip_cons_cons, List.zip_nil_left, List.reverse_cons, List.reverse_nil, List.mem_cons, List.not_mem_nil, lookA, forK_nx, forK_ct, forK_bk, forK_ret, forR_nil, Option.getD_some, Option.isNone_none, lookA, putA, wos_nil, wos_cons, wi_r1, wi_r2, wi_r3, wi_rev, wi_itv, wi_itt, wi_its, wi_lkv,
  plS1_own, plS1_ro, plS1_al, rtS_own, rtS_ro, owS_own, readP_eq, ownP_eq, writeP_eq, dim_eq, setV_eq, getP_nil, getP_ix, getP_fld, getP_key, getP_nk, setP_nil, setP_ix, setP_fld, setP_key, setP_nk, late_nil, late_cons, lateA_val, lateA_nil, lateA_cons, tree_val, tree_rw, tree_ro, mok_nil, mok_val, mok_ro, mok_rw,
  treesOf_nil, treesOf_cons, rootsOk_nil, rootsOk_val, rootsOk_rw, rootsOk_ro, okRw_val, okRw_pth, okRo_val, okRo_rw, okRo_ro, backA_nil, backA_rw, backA_ro, backA_val, outT_nil, outT_rw, outT_val, outT_ro, intD_int, boolD_bool, strD1_str, fzT_fz, lsT_ls, lisD_list, insT_ins, dkT_dk, dnT_dn, seqD_list, seqD_tuple, tupD_tuple, isLs_eq,
  setT_eq, atS, canS_no, canS_own, canS_al, canS_opt, dropAl_no, dA_own, dA_ro, dropAl_al, dropAl_opt, dimS_no, dS_own, dimS_al, dimS_opt, quiet, data_fz, data_ls, bindT, slotsOf, slotOf, startE,
  List.map_cons, List.map_nil, List.set_cons_zero, List.set_cons_succ, List.length_cons, List.length_nil, List.append_nil, List.nil_append, List.cons_append, List.getElem?_cons_zero, List.getElem?_cons_succ, List.all_cons, List.all_nil, List.replicate_succ, List.replicate_zero,
  Bool.true_and, Bool.and_true, Bool.false_and, Bool.and_false, Bool.true_or, Bool.or_true, Bool.false_or, Bool.or_false, Bool.not_true, Bool.not_false, Bool.and_self, Option.some.injEq, exists_eq_left', exists_eq_left, true_and, and_true, ite_true, ite_false, if_true, if_false, reduceCtorEq, not_true_eq_false, not_false_eq_true, Option.bind_some, Option.map_some, Option.isSome_some, Bool.false_eq_true, reduceIte, nc0, nc1, nc2, nc3, nc4, nc5, nc6, nc7, nc8, nc9, nc10, nc11, nc12, nc13, nc14, nc15, nc16, ex_if, ex_ifm, ex_map, ex_bind, Bool.not_eq_true', decide_eq_true_eq, decide_true, decide_false,
  String.reduceEq, String.reduceNe, Nat.reduceEqDiff, Int.reduceAdd, Int.reduceSub, Int.reduceMul, Int.reduceNeg, Int.reduceLT, Int.reduceLE, Int.reduceEq, Int.reduceToNat, Int.reduceNe, gt_iff_lt, ge_iff_le, Nat.reduceLT, Nat.zero_lt_succ, Nat.reduceAdd, Nat.reduceSub, Nat.reduceLeDiff, sizeLine, Nat.reducePow, Nat.zero_add, Nat.add_zero, ne_eq,
  wipeOk_no, wipeOk_own, wipeOk_opt, wipe_nil, wipe_cons, bkS_no, bkS_own, bkS_opt, back_nil, back_cons, lk_r1, lk_r2, lk_r3, lk_rev, lk_itv, lk_itt, lk_its, unlk_r1, unlk_r2, unlk_r3, unlk_rev, unlk_itv, unlk_itt, unlk_its, atI_0, atI_1, atI_2, atI_3, atI_4, atI_5,
  r_listL, r_listT, cut2_3, cut2_4, cut3_3, cut3_4, r_tupL, r_tupT, isi_i, isi_l, isi_t, r_mulI, r_modI, r_fdivI, r_addS, r_addL, r_addT, r_mulL', r_slL, r_slT, r_slS, r_ixS, r_lenS, r_strI, r_strS, r_intS, r_any, r_all, r_sum, r_min2, r_max2, r_truI, r_truB, r_truL, r_truT, r_truN, r_split, r_inS, r_notinS, r_inT1, r_niT1, r_inT2, r_niT2, r_inT3, r_niT3, r_inT4, r_niT4, r_inT5, r_niT5, r_inT6, r_niT6, or_true, true_or, or_false, false_or, or_self, r_eqSS, r_neSS, strOk_ofString, ofStr_eq, r_eqII, r_neII, r_lt, r_le, r_gt, r_ge, r_add, r_sub, r_int, r_intB, r_abs, r_lenL, r_lenT, r_ixL, r_ixT, cn_f_sort_of_MAKES, fn_f_goes_on_f_sort_of, fn_f_cost_f_goes_on, fn_f_part_f_take, fn_f_law_cost_f_is_pass, fn_f_law_top_f_law_cost, fn_f_law_top_f_is_integer, fn_f_law_top_f_part, fn_f_law_top_f_state, fn_f_law_top_f_take, fn_f_law_top_f_cost, m_f_sort_of, rw_f_sort_of, m_f_goes_on, rw_f_goes_on, m_f_cost, rw_f_cost, m_f_is_integer, rw_f_is_integer, m_f_state, rw_f_state, m_f_take, rw_f_take, m_f_part, rw_f_part, m_f_is_pass, rw_f_is_pass, m_f_law_cost, rw_f_law_cost, m_f_law_top, rw_f_law_top])

/-! ### the generator -/
/-- the generator's state -/
def stT (ns : List Int) (r i m : Int) : T := .ls [.fz (scr ns), .fz (.int r), .fz (.int i), .fz (.int m), .fz (.list []), .fz (.int 0), .fz (.int 0), .fz (.int 0)]
structure GS (ns : List Int) (i m : Int) : Prop where
  i0 : 0 ≤ i
  m01 : m = 0 ∨ (m = 1 ∧ ns ≠ [])
theorem atI_ints {ns : List Int} {i : Int} (h : 0 ≤ i) (h2 : i < ns.length) : ∃ c, atI (ns.map PyData.int) i = some (.int c) := by
  obtain ⟨j, rfl⟩ := Int.eq_ofNat_of_zero_le h
  have hj : j < ns.length := by simpa using h2
  exact ⟨ns[j], atI_nat (by rw [List.getElem?_map, List.getElem?_eq_getElem hj]; rfl)⟩
theorem take_mixed (ns : List Int) (r i : Int) (many c : Int) (h0 : many ≠ 0) (hl : ns ≠ []) (hc : atI (ns.map PyData.int) (i.fmod ns.length) = some (.int c)) :
   vf_take.run [stT ns r i 1, .fz (.int many)] = .ok (.fz (.int ((((r * 48271 + c * 69621 + i * 7919 + 11).fmod 2147483647 * 16807 + 5).fmod 2147483629).fmod many)))
     [stT ns ((r * 48271 + c * 69621 + i * 7919 + 11).fmod 2147483647) (i + 1) 1, .fz (.int many)] := by
  simp [vf_take, fnD, df_take, rwN, startE, slotsOf, slotOf, stT, evS, evE, evL, evT, evEs, evO, readP, rootT, getP, getS, r_eqII, r_add, r_mulR, r_mod, r_int, r_lenL, r_ixL, scr, ixN, late, intD, ownP, ownT, writeP, setP, setS, dim, dimS, setT, setV, dropAl, outR, outT, h0, hl, hc]
theorem take_zero (ns : List Int) (i : Int) (many : Int) (h0 : many ≠ 0) (hi : (ns.length : Int) ≤ i) :
   vf_take.run [stT ns 0 i 0, .fz (.int many)] = .ok (.fz (.int 0)) [stT ns 0 i 0, .fz (.int many)] := by
  simp [vf_take, fnD, df_take, rwN, startE, slotsOf, slotOf, stT, evS, evE, evL, evT, evEs, evO, readP, rootT, getP, getS, r_eqII, r_ge, r_add, r_mulR, r_mod, r_int, r_lenL, r_ixL, scr, ixN, late, intD, ownP, ownT, writeP, setP, setS, dim, dimS, setT, setV, dropAl, outR, outT, h0, hi]
theorem take_new (ns : List Int) (i : Int) (many c : Int) (h0 : many ≠ 0) (h1 : many.natAbs < 1073741824) (hi : ¬ (ns.length : Int) ≤ i) (hc : atI (ns.map PyData.int) i = some (.int c)) :
   vf_take.run [stT ns 0 i 0, .fz (.int many)] = .ok (.fz (.int ((if c < 0 then -c else c).fmod many))) [stT ns ((if c < 0 then -c else c).fdiv many) (i + 1) 0, .fz (.int many)] := by
  simp [vf_take, fnD, df_take, rwN, startE, slotsOf, slotOf, stT, evS, evE, evL, evT, evEs, evO, readP, rootT, getP, getS, r_eqII, r_ge, r_add, r_mulR, r_mod, r_int, r_lenL, r_ixL, r_abs, r_fdiv, scr, ixN, late, intD, ownP, ownT, writeP, setP, setS, dim, dimS, setT, setV, dropAl, outR, outT, h0, h1, hi, hc]
theorem take_on (ns : List Int) (r i : Int) (many : Int) (h0 : many ≠ 0) (h1 : many.natAbs < 1073741824) (hr : r ≠ 0) :
   vf_take.run [stT ns r i 0, .fz (.int many)] = .ok (.fz (.int (r.fmod many))) [stT ns (r.fdiv many) i 0, .fz (.int many)] := by
  simp [vf_take, fnD, df_take, rwN, startE, slotsOf, slotOf, stT, evS, evE, evL, evT, evEs, evO, readP, rootT, getP, getS, r_eqII, r_ge, r_add, r_mulR, r_mod, r_int, r_lenL, r_ixL, r_abs, r_fdiv, scr, ixN, late, intD, ownP, ownT, writeP, setP, setS, dim, dimS, setT, setV, dropAl, outR, outT, h0, h1, hr]
theorem take_ok {ns : List Int} {r i m many : Int} (g : GS ns i m) (h0 : 0 < many) (h1 : many < 1073741824) : ∃ k r' i', 0 ≤ k ∧ k < many ∧ GS ns i' m ∧ vf_take.run [stT ns r i m, .fz (.int many)] = .ok (.fz (.int k)) [stT ns r' i' m, .fz (.int many)] := by
  have z0 : many ≠ 0 := by omega
  have z1 : many.natAbs < 1073741824 := by omega
  have md : ∀ x : Int, 0 ≤ x.fmod many ∧ x.fmod many < many := fun x => ⟨Int.fmod_nonneg_of_pos x h0, Int.fmod_lt_of_pos x h0⟩
  rcases g.m01 with rfl | ⟨rfl, hn⟩
  · by_cases hr : r = 0
    · subst hr
      by_cases hi : (ns.length : Int) ≤ i
      · exact ⟨0, 0, i, by omega, h0, g, take_zero ns i many z0 hi⟩
      · obtain ⟨c, hc⟩ := atI_ints (ns := ns) g.i0 (by omega)
        exact ⟨_, _, i + 1, (md _).1, (md _).2, ⟨by have := g.i0; omega, .inl rfl⟩, take_new ns i many c z0 z1 hi hc⟩
    · exact ⟨_, _, i, (md _).1, (md _).2, g, take_on ns r i many z0 z1 hr⟩
  · have hp : 0 < (ns.length : Int) := by
      cases ns with
      | nil => exact absurd rfl hn
      | cons x xs => simp
    obtain ⟨c, hc⟩ := atI_ints (ns := ns) (i := i.fmod ns.length) (Int.fmod_nonneg_of_pos i hp) (Int.fmod_lt_of_pos i hp)
    exact ⟨_, _, i + 1, (md _).1, (md _).2, ⟨by have := g.i0; omega, .inr ⟨rfl, hn⟩⟩, take_mixed ns r i many c z0 hn hc⟩
/-- a good state of the generator -/
def GSt (t : T) : Prop := ∃ ns r i m, t = stT ns r i m ∧ GS ns i m
theorem take_wp {t : T} {many : Int} (g : GSt t) (h0 : 0 < many) (h1 : many < 1073741824) {Q : T → List T → Prop} {X : Exn → List T → Prop}
    (h : ∀ k t', 0 ≤ k → k < many → GSt t' → Q (.fz (.int k)) [t', .fz (.int many)]) : (vf_take.run [t, .fz (.int many)]).wp Q X := by
  obtain ⟨ns, r, i, m, rfl, g⟩ := g
  obtain ⟨k, r', i', a, b, c, e⟩ := take_ok g h0 h1
  rw [e]
  exact h k _ a b ⟨_, _, _, _, rfl, c⟩
theorem state_run (ns : List Int) : ∃ t, GSt t ∧ vf_state.run [.fz (scr ns)] = .ok t [.fz (scr ns)] := by
  cases ns with
  | nil =>
    refine ⟨stT [] 0 1 0, ⟨_, _, _, _, rfl, by decide, .inl rfl⟩, ?_⟩
    simp [sizeLine, vf_state, fnD, df_state, rwN, startE, slotsOf, slotOf, stT, evS, evE, evL, evT, evEs, evO, evOs, readP, rootT, getP, getS, r_eqII, r_gt, r_add, r_mulR, r_mod, r_int, r_lenL, r_ixL, r_abs, r_fdiv, scr, ixN, late, intD, ownP, ownT, writeP, setP, setS, dim, dimS, setT, setV, dropAl, outR, outT]
  | cons c cs =>
    have hc : atI (PyData.int c :: cs.map PyData.int) 0 = some (.int c) := atI_nat (j := 0) rfl
    have hm : c.fmod 2 = 0 ∨ c.fmod 2 = 1 := by
      have h1 := Int.fmod_nonneg_of_pos c (show (0 : Int) < 2 by decide)
      have h2 := Int.fmod_lt_of_pos c (show (0 : Int) < 2 by decide)
      omega
    rcases hm with hm | hm
    · refine ⟨stT (c :: cs) ((if c < 0 then -c else c).fdiv 2) 1 0, ⟨_, _, _, _, rfl, by decide, .inl rfl⟩, ?_⟩
      have h3 : ∀ x y : PyData, atI [x, y] 0 = some x := fun x y => atI_nat (j := 0) rfl
      simp [sizeLine, vf_state, fnD, df_state, rwN, startE, slotsOf, slotOf, stT, evS, evE, evL, evT, evEs, evO, evOs, readP, rootT, getP, getS, r_eqII, r_gt, r_add, r_mulR, r_mod, r_int, r_lenL, r_ixL, r_abs, r_fdiv, scr, ixN, late, intD, ownP, ownT, writeP, setP, setS, dim, dimS, setT, setV, dropAl, outR, outT, hc, hm, h3]
    · refine ⟨stT (c :: cs) 1 1 1, ⟨_, _, _, _, rfl, by decide, .inr ⟨rfl, by simp⟩⟩, ?_⟩
      have h3 : ∀ x y : PyData, atI [x, y] 1 = some y := fun x y => atI_nat (j := 1) rfl
      simp [sizeLine, vf_state, fnD, df_state, rwN, startE, slotsOf, slotOf, stT, evS, evE, evL, evT, evEs, evO, evOs, readP, rootT, getP, getS, r_eqII, r_gt, r_add, r_mulR, r_mod, r_int, r_lenL, r_ixL, r_abs, r_fdiv, scr, ixN, late, intD, ownP, ownT, writeP, setP, setS, dim, dimS, setT, setV, dropAl, outR, outT, hc, hm, h3]

end Mp

end
section
set_option Elab.async false
set_option linter.all false
set_option maxRecDepth 100000
set_option maxHeartbeats 2000000
set_option autoImplicit false
open PySem PySem.Spec PyProof.Rows L2 TL
namespace Mp
local macro_rules | `(tactic| walk_at "mp") => `(tactic| repeat (first | with_reducible refine StB_go ?_ | simp -implicitDefEqProofs only [st_seq, st_skip, st_pss, st_brk, st_cont, st_ret, st_retN, st_ex, st_asg, st_asgT, st_iff, st_setix, wo_comp, st_for, turnQ_nx, turnQ_ct, turnQ_bk, turnQ_ret, whileQ_nx, whileQ_ct, whileQ_bk, whileQ_ret, seqK_nx, seqK_ret, seqK_bk, seqK_ct, retQ_ret, retQ_nx, retX_eq,
  wp_ok, wp_ofO, wp_raise, wp_bad, callF_wp, we_con, we_glob, we_rd, we_pk, we_fz, we_neg, we_isi, we_rev, we_sset, we_tup, we_lst, we_bin, we_cmp, we_chain, we_and, we_or, we_not, we_one, we_ife, we_ix, we_sl, wpt_no, wpt_part, we_bi, we_mt0, we_mt1, we_ofr, we_app, we_ext, we_revL, we_pop, we_popAt,
  wes_nil, wes_cons, wt_nil, wt_and, wt_or, wt_not, wt_one, wt_cmp, wt_chain, wt_tru, wl_var, wl_fld, wl_ix, wl_key, wl_nk, wa_nil, wa_cons, wa_ava, wa_aro, wa_arw, wo_fz, wo_mv, wo_lst, wo_list, wo_range, wo_call, wo_meth, wo_make, isIns_eq, isInsT_ins, rwF_rw, st_setfld, st_raise, st_tryx, goH_some, goH_none, rh_nil, rh_cons, hok_nil, hok_cons, off_none, off_some, offB_no, offB_fz, offB_opt, hs_fall, hs_ret, ifK_t, ifK_f, hs_ifr, hb_b, hx_con, hx_fld, hx_isi, tupK_s, hx_tupE, andK_t, andK_f, orK_f, orK_t, notK_b, hx_and, hx_or, hx_not, hx_one, consK_s, hxs_nil, hxs_cons, List.zip_cons_cons, List.zip_nil_left, List.reverse_cons, List.reverse_nil, List.mem_cons, List.not_mem_nil, lookA, forK_nx, forK_ct, forK_bk, forK_ret, forR_nil, Option.getD_some, Option.isNone_none, lookA, putA, wos_nil, wos_cons, wi_r1, wi_r2, wi_r3, wi_rev, wi_itv, wi_itt, wi_its, wi_lkv,
  plS1_own, plS1_ro, plS1_al, rtS_own, rtS_ro, owS_own, readP_eq, ownP_eq, writeP_eq, dim_eq, setV_eq, getP_nil, getP_ix, getP_fld, getP_key, getP_nk, setP_nil, setP_ix, setP_fld, setP_key, setP_nk, late_nil, late_cons, lateA_val, lateA_nil, lateA_cons, tree_val, tree_rw, tree_ro, mok_nil, mok_val, mok_ro, mok_rw,
  treesOf_nil, treesOf_cons, rootsOk_nil, rootsOk_val, rootsOk_rw, rootsOk_ro, okRw_val, okRw_pth, okRo_val, okRo_rw, okRo_ro, backA_nil, backA_rw, backA_ro, backA_val, outT_nil, outT_rw, outT_val, outT_ro, intD_int, boolD_bool, strD1_str, fzT_fz, lsT_ls, lisD_list, insT_ins, dkT_dk, dnT_dn, seqD_list, seqD_tuple, tupD_tuple, isLs_eq,
  setT_eq, atS, canS_no, canS_own, canS_al, canS_opt, dropAl_no, dA_own, dA_ro, dropAl_al, dropAl_opt, dimS_no, dS_own, dimS_al, dimS_opt, quiet, data_fz, data_ls, bindT, slotsOf, slotOf, startE,
  List.map_cons, List.map_nil, List.set_cons_zero, List.set_cons_succ, List.length_cons, List.length_nil, List.append_nil, List.nil_append, List.cons_append, List.getElem?_cons_zero, List.getElem?_cons_succ, List.all_cons, List.all_nil, List.replicate_succ, List.replicate_zero,
  Bool.true_and, Bool.and_true, Bool.false_and, Bool.and_false, Bool.true_or, Bool.or_true, Bool.false_or, Bool.or_false, Bool.not_true, Bool.not_false, Bool.and_self, Option.some.injEq, exists_eq_left', exists_eq_left, true_and, and_true, ite_true, ite_false, if_true, if_false, reduceCtorEq, not_true_eq_false, not_false_eq_true, Option.bind_some, Option.map_some, Option.isSome_some, Bool.false_eq_true, reduceIte, nc0, nc1, nc2, nc3, nc4, nc5, nc6, nc7, nc8, nc9, nc10, nc11, nc12, nc13, nc14, nc15, nc16, ex_if, ex_ifm, ex_map, ex_bind, Bool.not_eq_true', decide_eq_true_eq, decide_true, decide_false,
  String.reduceEq, String.reduceNe, Nat.reduceEqDiff, Int.reduceAdd, Int.reduceSub, Int.reduceMul, Int.reduceNeg, Int.reduceLT, Int.reduceLE, Int.reduceEq, Int.reduceToNat, Int.reduceNe, gt_iff_lt, ge_iff_le, Nat.reduceLT, Nat.zero_lt_succ, Nat.reduceAdd, Nat.reduceSub, Nat.reduceLeDiff, sizeLine, Nat.reducePow, Nat.zero_add, Nat.add_zero, ne_eq,
  wipeOk_no, wipeOk_own, wipeOk_opt, wipe_nil, wipe_cons, bkS_no, bkS_own, bkS_opt, back_nil, back_cons, lk_r1, lk_r2, lk_r3, lk_rev, lk_itv, lk_itt, lk_its, unlk_r1, unlk_r2, unlk_r3, unlk_rev, unlk_itv, unlk_itt, unlk_its, atI_0, atI_1, atI_2, atI_3, atI_4, atI_5,
  r_listL, r_listT, cut2_3, cut2_4, cut3_3, cut3_4, r_tupL, r_tupT, isi_i, isi_l, isi_t, r_mulI, r_modI, r_fdivI, r_addS, r_addL, r_addT, r_mulL', r_slL, r_slT, r_slS, r_ixS, r_lenS, r_strI, r_strS, r_intS, r_any, r_all, r_sum, r_min2, r_max2, r_truI, r_truB, r_truL, r_truT, r_truN, r_split, r_inS, r_notinS, r_inT1, r_niT1, r_inT2, r_niT2, r_inT3, r_niT3, r_inT4, r_niT4, r_inT5, r_niT5, r_inT6, r_niT6, or_true, true_or, or_false, false_or, or_self, r_eqSS, r_neSS, strOk_ofString, ofStr_eq, r_eqII, r_neII, r_lt, r_le, r_gt, r_ge, r_add, r_sub, r_int, r_intB, r_abs, r_lenL, r_lenT, r_ixL, r_ixT, cn_f_sort_of_MAKES, fn_f_goes_on_f_sort_of, fn_f_cost_f_goes_on, fn_f_part_f_take, fn_f_law_cost_f_is_pass, fn_f_law_top_f_law_cost, fn_f_law_top_f_is_integer, fn_f_law_top_f_part, fn_f_law_top_f_state, fn_f_law_top_f_take, fn_f_law_top_f_cost, m_f_sort_of, rw_f_sort_of, m_f_goes_on, rw_f_goes_on, m_f_cost, rw_f_cost, m_f_is_integer, rw_f_is_integer, m_f_state, rw_f_state, m_f_take, rw_f_take, m_f_part, rw_f_part, m_f_is_pass, rw_f_is_pass, m_f_law_cost, rw_f_law_cost, m_f_law_top, rw_f_law_top]))

local macro_rules | `(tactic| walk_at "mb") => `(tactic| simp only [bindT, setT_eq, setV_eq, atS, canS_no, canS_own, canS_al, canS_opt, dropAl_no, dA_own, dA_ro, dropAl_al, dropAl_opt, List.map_cons, List.map_nil, List.set_cons_zero, List.set_cons_succ, Option.some.injEq, exists_eq_left', exists_eq_left, if_true, reduceIte, Nat.reduceAdd, lk_r1, lk_r2, lk_r3, lk_rev, lk_itv, lk_itt, lk_its, wipeOk_no, wipeOk_own, wipeOk_opt, wipe_nil, wipe_cons, Option.bind_some])

local macro_rules | `(tactic| walk_at "m1") => `(tactic| simp -implicitDefEqProofs only [st_seq, st_skip, st_pss, st_brk, st_cont, st_ret, st_retN, st_ex, st_asg, st_asgT, st_iff, st_setix, wo_comp, st_for, turnQ_nx, turnQ_ct, turnQ_bk, turnQ_ret, whileQ_nx, whileQ_ct, whileQ_bk, whileQ_ret, seqK_nx, seqK_ret, seqK_bk, seqK_ct, retQ_ret, retQ_nx, retX_eq,
  wp_ok, wp_ofO, wp_raise, wp_bad, callF_wp, we_con, we_glob, we_rd, we_pk, we_fz, we_neg, we_isi, we_rev, we_sset, we_tup, we_lst, we_bin, we_cmp, we_chain, we_and, we_or, we_not, we_one, we_ife, we_ix, we_sl, wpt_no, wpt_part, we_bi, we_mt0, we_mt1, we_ofr, we_app, we_ext, we_revL, we_pop, we_popAt,
  wes_nil, wes_cons, wt_nil, wt_and, wt_or, wt_not, wt_one, wt_cmp, wt_chain, wt_tru, wl_var, wl_fld, wl_ix, wl_key, wl_nk, wa_nil, wa_cons, wa_ava, wa_aro, wa_arw, wo_fz, wo_mv, wo_lst, wo_list, wo_range, wo_call, wo_meth, wo_make, isIns_eq, isInsT_ins, rwF_rw, st_setfld, st_raise, st_tryx, goH_some, goH_none, rh_nil, rh_cons, hok_nil, hok_cons, off_none, off_some, offB_no, offB_fz, offB_opt, hs_fall, hs_ret, ifK_t, ifK_f, hs_ifr, hb_b, hx_con, hx_fld, hx_isi, tupK_s, hx_tupE, andK_t, andK_f, orK_f, orK_t, notK_b, hx_and, hx_or, hx_not, hx_one, consK_s, hxs_nil, hxs_cons, List.zip_cons_cons, List.zip_nil_left, List.reverse_cons, List.reverse_nil, List.mem_cons, List.not_mem_nil, lookA, forK_nx, forK_ct, forK_bk, forK_ret, forR_nil, Option.getD_some, Option.isNone_none, lookA, putA, wos_nil, wos_cons, wi_r1, wi_r2, wi_r3, wi_rev, wi_itv, wi_itt, wi_its, wi_lkv,
  plS1_own, plS1_ro, plS1_al, rtS_own, rtS_ro, owS_own, readP_eq, ownP_eq, writeP_eq, dim_eq, setV_eq, getP_nil, getP_ix, getP_fld, getP_key, getP_nk, setP_nil, setP_ix, setP_fld, setP_key, setP_nk, late_nil, late_cons, lateA_val, lateA_nil, lateA_cons, tree_val, tree_rw, tree_ro, mok_nil, mok_val, mok_ro, mok_rw,
  treesOf_nil, treesOf_cons, rootsOk_nil, rootsOk_val, rootsOk_rw, rootsOk_ro, okRw_val, okRw_pth, okRo_val, okRo_rw, okRo_ro, backA_nil, backA_rw, backA_ro, backA_val, outT_nil, outT_rw, outT_val, outT_ro, intD_int, boolD_bool, strD1_str, fzT_fz, lsT_ls, lisD_list, insT_ins, dkT_dk, dnT_dn, seqD_list, seqD_tuple, tupD_tuple, isLs_eq,
  setT_eq, atS, canS_no, canS_own, canS_al, canS_opt, dropAl_no, dA_own, dA_ro, dropAl_al, dropAl_opt, dimS_no, dS_own, dimS_al, dimS_opt, quiet, data_fz, data_ls, bindT, slotsOf, slotOf, startE,
  List.map_cons, List.map_nil, List.set_cons_zero, List.set_cons_succ, List.length_cons, List.length_nil, List.append_nil, List.nil_append, List.cons_append, List.getElem?_cons_zero, List.getElem?_cons_succ, List.all_cons, List.all_nil, List.replicate_succ, List.replicate_zero,
  Bool.true_and, Bool.and_true, Bool.false_and, Bool.and_false, Bool.true_or, Bool.or_true, Bool.false_or, Bool.or_false, Bool.not_true, Bool.not_false, Bool.and_self, Option.some.injEq, exists_eq_left', exists_eq_left, true_and, and_true, ite_true, ite_false, if_true, if_false, reduceCtorEq, not_true_eq_false, not_false_eq_true, Option.bind_some, Option.map_some, Option.isSome_some, Bool.false_eq_true, reduceIte, nc0, nc1, nc2, nc3, nc4, nc5, nc6, nc7, nc8, nc9, nc10, nc11, nc12, nc13, nc14, nc15, nc16, ex_if, ex_ifm, ex_map, ex_bind, Bool.not_eq_true', decide_eq_true_eq, decide_true, decide_false,
  String.reduceEq, String.reduceNe, Nat.reduceEqDiff, Int.reduceAdd, Int.reduceSub, Int.reduceMul, Int.reduceNeg, Int.reduceLT, Int.reduceLE, Int.reduceEq, Int.reduceToNat, Int.reduceNe, gt_iff_lt, ge_iff_le, Nat.reduceLT, Nat.zero_lt_succ, Nat.reduceAdd, Nat.reduceSub, Nat.reduceLeDiff, sizeLine, Nat.reducePow, Nat.zero_add, Nat.add_zero, ne_eq,
  wipeOk_no, wipeOk_own, wipeOk_opt, wipe_nil, wipe_cons, bkS_no, bkS_own, bkS_opt, back_nil, back_cons, lk_r1, lk_r2, lk_r3, lk_rev, lk_itv, lk_itt, lk_its, unlk_r1, unlk_r2, unlk_r3, unlk_rev, unlk_itv, unlk_itt, unlk_its, atI_0, atI_1, atI_2, atI_3, atI_4, atI_5,
  r_listL, r_listT, cut2_3, cut2_4, cut3_3, cut3_4, r_tupL, r_tupT, isi_i, isi_l, isi_t, r_mulI, r_modI, r_fdivI, r_addS, r_addL, r_addT, r_mulL', r_slL, r_slT, r_slS, r_ixS, r_lenS, r_strI, r_strS, r_intS, r_any, r_all, r_sum, r_min2, r_max2, r_truI, r_truB, r_truL, r_truT, r_truN, r_split, r_inS, r_notinS, r_inT1, r_niT1, r_inT2, r_niT2, r_inT3, r_niT3, r_inT4, r_niT4, r_inT5, r_niT5, r_inT6, r_niT6, or_true, true_or, or_false, false_or, or_self, r_eqSS, r_neSS, strOk_ofString, ofStr_eq, r_eqII, r_neII, r_lt, r_le, r_gt, r_ge, r_add, r_sub, r_int, r_intB, r_abs, r_lenL, r_lenT, r_ixL, r_ixT, cn_f_sort_of_MAKES, fn_f_goes_on_f_sort_of, fn_f_cost_f_goes_on, fn_f_part_f_take, fn_f_law_cost_f_is_pass, fn_f_law_top_f_law_cost, fn_f_law_top_f_is_integer, fn_f_law_top_f_part, fn_f_law_top_f_state, fn_f_law_top_f_take, fn_f_law_top_f_cost, m_f_sort_of, rw_f_sort_of, m_f_goes_on, rw_f_goes_on, m_f_cost, rw_f_cost, m_f_is_integer, rw_f_is_integer, m_f_state, rw_f_state, m_f_take, rw_f_take, m_f_part, rw_f_part, m_f_is_pass, rw_f_is_pass, m_f_law_cost, rw_f_law_cost, m_f_law_top, rw_f_law_top])

/-! ### code as data -/
def bedS (b : Bool) : Str := if b then "back" else "front"
def mvS (d : Bool) : Str := if d then "drop" else "xfer"
def mkS (t : Bool) : Str := if t then "tuck" else "knit"
inductive In where
  | rack (r : Int) | mv (d b : Bool) (i : Int) | mk (t b : Bool) (i : Int) (y : Str)
  deriving DecidableEq
def In.parts : In → List PyData
  | .rack r => [.str "rack", .int r]
  | .mv d b i => [.str (mvS d), .str (bedS b), .int i]
  | .mk t b i y => [.str (mkS t), .str (bedS b), .int i, .str y]
def In.enc (c : In) : PyData := .tuple c.parts
/-- the yarns of drawn instructions -/
def Yi (y : Str) : Prop := y = "abzzzzzy" ∨ y = "abzzzzzz" ∨ y = "b"
theorem run_wpv {G : Gl} {hit : Str → Str → Bool} {D : Dfn} {v : Fn} {ts : List T} {Q : T → List T → Prop} {X : Exn → List T → Prop} (hv : fnD G hit D = v) (h : rwN D.modes ≤ 1) (w : St G hit D.b (startE D ts) (retQ D.modes ts Q) (retX D.modes ts X)) : (v.run ts).wp Q X := by
  subst hv; exact run_wp h w
theorem ite_aa {a b : Prop} [Decidable a] [Decidable b] {x y : Prop} : (if a then (if b then x else y) else y) = if a ∧ b then x else y := by
  by_cases h : a <;> by_cases k : b <;> simp [h, k]
theorem ite_oo {a b : Prop} [Decidable a] [Decidable b] {x y : Prop} : (if a then x else (if b then x else y)) = if a ∨ b then x else y := by
  by_cases h : a <;> by_cases k : b <;> simp [h, k]
theorem in_at {cs : List In} {j : Nat} {c : In} (h : cs[j]? = some c) : atI (cs.map In.enc) (j : Int) = some c.enc := atI_nat (by rw [List.getElem?_map, h]; rfl)
theorem pre_at {α : Type} {cs : List α} {n : Nat} {pre post : List Nat} {x : Nat} (h : List.range n = pre ++ x :: post) (hn : n = cs.length) : ∃ c, cs[x]? = some c ∧ cs.drop x = c :: cs.drop (x + 1) := by
  have := range_at h
  have hx : x < cs.length := by rw [← hn]; exact this.2
  exact ⟨cs[x], List.getElem?_eq_getElem hx, List.drop_eq_getElem_cons hx⟩

end Mp

end
section
set_option Elab.async false
set_option linter.all false
set_option maxRecDepth 100000
set_option maxHeartbeats 2000000
set_option autoImplicit false
open PySem PySem.Spec PyProof.Rows L2 TL
namespace Mp
local macro_rules | `(tactic| walk_at "mp") => `(tactic| repeat (first | with_reducible refine StB_go ?_ | simp -implicitDefEqProofs only [st_seq, st_skip, st_pss, st_brk, st_cont, st_ret, st_retN, st_ex, st_asg, st_asgT, st_iff, st_setix, wo_comp, st_for, turnQ_nx, turnQ_ct, turnQ_bk, turnQ_ret, whileQ_nx, whileQ_ct, whileQ_bk, whileQ_ret, seqK_nx, seqK_ret, seqK_bk, seqK_ct, retQ_ret, retQ_nx, retX_eq,
  wp_ok, wp_ofO, wp_raise, wp_bad, callF_wp, we_con, we_glob, we_rd, we_pk, we_fz, we_neg, we_isi, we_rev, we_sset, we_tup, we_lst, we_bin, we_cmp, we_chain, we_and, we_or, we_not, we_one, we_ife, we_ix, we_sl, wpt_no, wpt_part, we_bi, we_mt0, we_mt1, we_ofr, we_app, we_ext, we_revL, we_pop, we_popAt,
  wes_nil, wes_cons, wt_nil, wt_and, wt_or, wt_not, wt_one, wt_cmp, wt_chain, wt_tru, wl_var, wl_fld, wl_ix, wl_key, wl_nk, wa_nil, wa_cons, wa_ava, wa_aro, wa_arw, wo_fz, wo_mv, wo_lst, wo_list, wo_range, wo_call, wo_meth, wo_make, isIns_eq, isInsT_ins, rwF_rw, st_setfld, st_raise, st_tryx, goH_some, goH_none, rh_nil, rh_cons, hok_nil, hok_cons, off_none, off_some, offB_no, offB_fz, offB_opt, hs_fall, hs_ret, ifK_t, ifK_f, hs_ifr, hb_b, hx_con, hx_fld, hx_isi, tupK_s, hx_tupE, andK_t, andK_f, orK_f, orK_t, notK_b, hx_and, hx_or, hx_not, hx_one, consK_s, hxs_nil, hxs_cons, List.zip_cons_cons, List.zip_nil_left, List.reverse_cons, List.reverse_nil, List.mem_cons, List.not_mem_nil, lookA, forK_nx, forK_ct, forK_bk, forK_ret, forR_nil, Option.getD_some, Option.isNone_none, lookA, putA, wos_nil, wos_cons, wi_r1, wi_r2, wi_r3, wi_rev, wi_itv, wi_itt, wi_its, wi_lkv,
  plS1_own, plS1_ro, plS1_al, rtS_own, rtS_ro, owS_own, readP_eq, ownP_eq, writeP_eq, dim_eq, setV_eq, getP_nil, getP_ix, getP_fld, getP_key, getP_nk, setP_nil, setP_ix, setP_fld, setP_key, setP_nk, late_nil, late_cons, lateA_val, lateA_nil, lateA_cons, tree_val, tree_rw, tree_ro, mok_nil, mok_val, mok_ro, mok_rw,
  treesOf_nil, treesOf_cons, rootsOk_nil, rootsOk_val, rootsOk_rw, rootsOk_ro, okRw_val, okRw_pth, okRo_val, okRo_rw, okRo_ro, backA_nil, backA_rw, backA_ro, backA_val, outT_nil, outT_rw, outT_val, outT_ro, intD_int, boolD_bool, strD1_str, fzT_fz, lsT_ls, lisD_list, insT_ins, dkT_dk, dnT_dn, seqD_list, seqD_tuple, tupD_tuple, isLs_eq,
  setT_eq, atS, canS_no, canS_own, canS_al, canS_opt, dropAl_no, dA_own, dA_ro, dropAl_al, dropAl_opt, dimS_no, dS_own, dimS_al, dimS_opt, quiet, data_fz, data_ls, bindT, slotsOf, slotOf, startE,
  List.map_cons, List.map_nil, List.set_cons_zero, List.set_cons_succ, List.length_cons, List.length_nil, List.append_nil, List.nil_append, List.cons_append, List.getElem?_cons_zero, List.getElem?_cons_succ, List.all_cons, List.all_nil, List.replicate_succ, List.replicate_zero,
  Bool.true_and, Bool.and_true, Bool.false_and, Bool.and_false, Bool.true_or, Bool.or_true, Bool.false_or, Bool.or_false, Bool.not_true, Bool.not_false, Bool.and_self, Option.some.injEq, exists_eq_left', exists_eq_left, true_and, and_true, ite_true, ite_false, if_true, if_false, reduceCtorEq, not_true_eq_false, not_false_eq_true, Option.bind_some, Option.map_some, Option.isSome_some, Bool.false_eq_true, reduceIte, nc0, nc1, nc2, nc3, nc4, nc5, nc6, nc7, nc8, nc9, nc10, nc11, nc12, nc13, nc14, nc15, nc16, ex_if, ex_ifm, ex_map, ex_bind, Bool.not_eq_true', decide_eq_true_eq, decide_true, decide_false,
  String.reduceEq, String.reduceNe, Nat.reduceEqDiff, Int.reduceAdd, Int.reduceSub, Int.reduceMul, Int.reduceNeg, Int.reduceLT, Int.reduceLE, Int.reduceEq, Int.reduceToNat, Int.reduceNe, gt_iff_lt, ge_iff_le, Nat.reduceLT, Nat.zero_lt_succ, Nat.reduceAdd, Nat.reduceSub, Nat.reduceLeDiff, sizeLine, Nat.reducePow, Nat.zero_add, Nat.add_zero, ne_eq,
  wipeOk_no, wipeOk_own, wipeOk_opt, wipe_nil, wipe_cons, bkS_no, bkS_own, bkS_opt, back_nil, back_cons, lk_r1, lk_r2, lk_r3, lk_rev, lk_itv, lk_itt, lk_its, unlk_r1, unlk_r2, unlk_r3, unlk_rev, unlk_itv, unlk_itt, unlk_its, atI_0, atI_1, atI_2, atI_3, atI_4, atI_5,
  r_listL, r_listT, cut2_3, cut2_4, cut3_3, cut3_4, r_tupL, r_tupT, isi_i, isi_l, isi_t, r_mulI, r_modI, r_fdivI, r_addS, r_addL, r_addT, r_mulL', r_slL, r_slT, r_slS, r_ixS, r_lenS, r_strI, r_strS, r_intS, r_any, r_all, r_sum, r_min2, r_max2, r_truI, r_truB, r_truL, r_truT, r_truN, r_split, r_inS, r_notinS, r_inT1, r_niT1, r_inT2, r_niT2, r_inT3, r_niT3, r_inT4, r_niT4, r_inT5, r_niT5, r_inT6, r_niT6, or_true, true_or, or_false, false_or, or_self, r_eqSS, r_neSS, strOk_ofString, ofStr_eq, r_eqII, r_neII, r_lt, r_le, r_gt, r_ge, r_add, r_sub, r_int, r_intB, r_abs, r_lenL, r_lenT, r_ixL, r_ixT, cn_f_sort_of_MAKES, fn_f_goes_on_f_sort_of, fn_f_cost_f_goes_on, fn_f_part_f_take, fn_f_law_cost_f_is_pass, fn_f_law_top_f_law_cost, fn_f_law_top_f_is_integer, fn_f_law_top_f_part, fn_f_law_top_f_state, fn_f_law_top_f_take, fn_f_law_top_f_cost, m_f_sort_of, rw_f_sort_of, m_f_goes_on, rw_f_goes_on, m_f_cost, rw_f_cost, m_f_is_integer, rw_f_is_integer, m_f_state, rw_f_state, m_f_take, rw_f_take, m_f_part, rw_f_part, m_f_is_pass, rw_f_is_pass, m_f_law_cost, rw_f_law_cost, m_f_law_top, rw_f_law_top]))

local macro_rules | `(tactic| walk_at "mb") => `(tactic| simp only [bindT, setT_eq, setV_eq, atS, canS_no, canS_own, canS_al, canS_opt, dropAl_no, dA_own, dA_ro, dropAl_al, dropAl_opt, List.map_cons, List.map_nil, List.set_cons_zero, List.set_cons_succ, Option.some.injEq, exists_eq_left', exists_eq_left, if_true, reduceIte, Nat.reduceAdd, lk_r1, lk_r2, lk_r3, lk_rev, lk_itv, lk_itt, lk_its, wipeOk_no, wipeOk_own, wipeOk_opt, wipe_nil, wipe_cons, Option.bind_some])

local macro_rules | `(tactic| walk_at "m1") => `(tactic| simp -implicitDefEqProofs only [st_seq, st_skip, st_pss, st_brk, st_cont, st_ret, st_retN, st_ex, st_asg, st_asgT, st_iff, st_setix, wo_comp, st_for, turnQ_nx, turnQ_ct, turnQ_bk, turnQ_ret, whileQ_nx, whileQ_ct, whileQ_bk, whileQ_ret, seqK_nx, seqK_ret, seqK_bk, seqK_ct, retQ_ret, retQ_nx, retX_eq,
  wp_ok, wp_ofO, wp_raise, wp_bad, callF_wp, we_con, we_glob, we_rd, we_pk, we_fz, we_neg, we_isi, we_rev, we_sset, we_tup, we_lst, we_bin, we_cmp, we_chain, we_and, we_or, we_not, we_one, we_ife, we_ix, we_sl, wpt_no, wpt_part, we_bi, we_mt0, we_mt1, we_ofr, we_app, we_ext, we_revL, we_pop, we_popAt,
  wes_nil, wes_cons, wt_nil, wt_and, wt_or, wt_not, wt_one, wt_cmp, wt_chain, wt_tru, wl_var, wl_fld, wl_ix, wl_key, wl_nk, wa_nil, wa_cons, wa_ava, wa_aro, wa_arw, wo_fz, wo_mv, wo_lst, wo_list, wo_range, wo_call, wo_meth, wo_make, isIns_eq, isInsT_ins, rwF_rw, st_setfld, st_raise, st_tryx, goH_some, goH_none, rh_nil, rh_cons, hok_nil, hok_cons, off_none, off_some, offB_no, offB_fz, offB_opt, hs_fall, hs_ret, ifK_t, ifK_f, hs_ifr, hb_b, hx_con, hx_fld, hx_isi, tupK_s, hx_tupE, andK_t, andK_f, orK_f, orK_t, notK_b, hx_and, hx_or, hx_not, hx_one, consK_s, hxs_nil, hxs_cons, List.zip_cons_cons, List.zip_nil_left, List.reverse_cons, List.reverse_nil, List.mem_cons, List.not_mem_nil, lookA, forK_nx, forK_ct, forK_bk, forK_ret, forR_nil, Option.getD_some, Option.isNone_none, lookA, putA, wos_nil, wos_cons, wi_r1, wi_r2, wi_r3, wi_rev, wi_itv, wi_itt, wi_its, wi_lkv,
  plS1_own, plS1_ro, plS1_al, rtS_own, rtS_ro, owS_own, readP_eq, ownP_eq, writeP_eq, dim_eq, setV_eq, getP_nil, getP_ix, getP_fld, getP_key, getP_nk, setP_nil, setP_ix, setP_fld, setP_key, setP_nk, late_nil, late_cons, lateA_val, lateA_nil, lateA_cons, tree_val, tree_rw, tree_ro, mok_nil, mok_val, mok_ro, mok_rw,
  treesOf_nil, treesOf_cons, rootsOk_nil, rootsOk_val, rootsOk_rw, rootsOk_ro, okRw_val, okRw_pth, okRo_val, okRo_rw, okRo_ro, backA_nil, backA_rw, backA_ro, backA_val, outT_nil, outT_rw, outT_val, outT_ro, intD_int, boolD_bool, strD1_str, fzT_fz, lsT_ls, lisD_list, insT_ins, dkT_dk, dnT_dn, seqD_list, seqD_tuple, tupD_tuple, isLs_eq,
  setT_eq, atS, canS_no, canS_own, canS_al, canS_opt, dropAl_no, dA_own, dA_ro, dropAl_al, dropAl_opt, dimS_no, dS_own, dimS_al, dimS_opt, quiet, data_fz, data_ls, bindT, slotsOf, slotOf, startE,
  List.map_cons, List.map_nil, List.set_cons_zero, List.set_cons_succ, List.length_cons, List.length_nil, List.append_nil, List.nil_append, List.cons_append, List.getElem?_cons_zero, List.getElem?_cons_succ, List.all_cons, List.all_nil, List.replicate_succ, List.replicate_zero,
  Bool.true_and, Bool.and_true, Bool.false_and, Bool.and_false, Bool.true_or, Bool.or_true, Bool.false_or, Bool.or_false, Bool.not_true, Bool.not_false, Bool.and_self, Option.some.injEq, exists_eq_left', exists_eq_left, true_and, and_true, ite_true, ite_false, if_true, if_false, reduceCtorEq, not_true_eq_false, not_false_eq_true, Option.bind_some, Option.map_some, Option.isSome_some, Bool.false_eq_true, reduceIte, nc0, nc1, nc2, nc3, nc4, nc5, nc6, nc7, nc8, nc9, nc10, nc11, nc12, nc13, nc14, nc15, nc16, ex_if, ex_ifm, ex_map, ex_bind, Bool.not_eq_true', decide_eq_true_eq, decide_true, decide_false,
  String.reduceEq, String.reduceNe, Nat.reduceEqDiff, Int.reduceAdd, Int.reduceSub, Int.reduceMul, Int.reduceNeg, Int.reduceLT, Int.reduceLE, Int.reduceEq, Int.reduceToNat, Int.reduceNe, gt_iff_lt, ge_iff_le, Nat.reduceLT, Nat.zero_lt_succ, Nat.reduceAdd, Nat.reduceSub, Nat.reduceLeDiff, sizeLine, Nat.reducePow, Nat.zero_add, Nat.add_zero, ne_eq,
  wipeOk_no, wipeOk_own, wipeOk_opt, wipe_nil, wipe_cons, bkS_no, bkS_own, bkS_opt, back_nil, back_cons, lk_r1, lk_r2, lk_r3, lk_rev, lk_itv, lk_itt, lk_its, unlk_r1, unlk_r2, unlk_r3, unlk_rev, unlk_itv, unlk_itt, unlk_its, atI_0, atI_1, atI_2, atI_3, atI_4, atI_5,
  r_listL, r_listT, cut2_3, cut2_4, cut3_3, cut3_4, r_tupL, r_tupT, isi_i, isi_l, isi_t, r_mulI, r_modI, r_fdivI, r_addS, r_addL, r_addT, r_mulL', r_slL, r_slT, r_slS, r_ixS, r_lenS, r_strI, r_strS, r_intS, r_any, r_all, r_sum, r_min2, r_max2, r_truI, r_truB, r_truL, r_truT, r_truN, r_split, r_inS, r_notinS, r_inT1, r_niT1, r_inT2, r_niT2, r_inT3, r_niT3, r_inT4, r_niT4, r_inT5, r_niT5, r_inT6, r_niT6, or_true, true_or, or_false, false_or, or_self, r_eqSS, r_neSS, strOk_ofString, ofStr_eq, r_eqII, r_neII, r_lt, r_le, r_gt, r_ge, r_add, r_sub, r_int, r_intB, r_abs, r_lenL, r_lenT, r_ixL, r_ixT, cn_f_sort_of_MAKES, fn_f_goes_on_f_sort_of, fn_f_cost_f_goes_on, fn_f_part_f_take, fn_f_law_cost_f_is_pass, fn_f_law_top_f_law_cost, fn_f_law_top_f_is_integer, fn_f_law_top_f_part, fn_f_law_top_f_state, fn_f_law_top_f_take, fn_f_law_top_f_cost, m_f_sort_of, rw_f_sort_of, m_f_goes_on, rw_f_goes_on, m_f_cost, rw_f_cost, m_f_is_integer, rw_f_is_integer, m_f_state, rw_f_state, m_f_take, rw_f_take, m_f_part, rw_f_part, m_f_is_pass, rw_f_is_pass, m_f_law_cost, rw_f_law_cost, m_f_law_top, rw_f_law_top])

/-- a drawn instruction: its needle from 0 to w - 1, its rack from -r to r -/
def In.Dr (w r : Int) : In → Prop
  | .rack k => -r ≤ k ∧ k ≤ r
  | .mv _ _ i => 0 ≤ i ∧ i < w
  | .mk _ _ i y => 0 ≤ i ∧ i < w ∧ Yi y
theorem part_wp {t : T} (g : GSt t) {w r : Int} (hw : 0 < w) (hw2 : w ≤ 1000) (hr : 0 ≤ r) (hr2 : r ≤ 1000) {Q : T → List T → Prop} {X : Exn → List T → Prop}
    (h : ∀ (c : In) t', c.Dr w r → GSt t' → Q (.fz c.enc) [t', .fz (.int w), .fz (.int r)]) : (vf_part.run [t, .fz (.int w), .fz (.int r)]).wp Q X := by
  refine run_wp (by decide) ?_
  simp only [df_part]
  walk_at "mp"
  refine take_wp g (by decide) (by decide) fun k t1 h0 h1 g => ?_
  walk_at "mp"
  refine take_wp g (by decide) (by decide) fun k2 t2 h2 h3 g => ?_
  walk_at "mp"
  obtain ⟨z, hz, b, rfl⟩ : ∃ z, atI [PyData.str ("front" : Str), .str ("back" : Str)] k2 = some z ∧ ∃ b, z = .str (bedS b) := pick2 h2 h3 ⟨false, rfl⟩ ⟨true, rfl⟩
  refine ⟨_, hz, ?_⟩
  walk_at "mp"
  by_cases b3 : k < 3
  · rw [if_pos b3]
    walk_at "mp"
    refine ⟨.inr (by omega), ?_⟩
    walk_at "mp"
    refine take_wp g (by omega) (by omega) fun k4 t4 h4 h5 g => ?_
    walk_at "mp"
    exact h (.rack (k4 - r)) t4 ⟨by omega, by omega⟩ g
  rw [if_neg b3]
  walk_at "mp"
  refine take_wp g hw (by omega) fun i t3 h4 h5 g => ?_
  walk_at "mp"
  by_cases b6 : k < 6
  · rw [if_pos b6]
    walk_at "mp"
    exact h (.mv false b i) t3 ⟨h4, h5⟩ g
  rw [if_neg b6]
  walk_at "mp"
  by_cases b9 : k < 9
  · rw [if_pos b9]
    walk_at "mp"
    refine take_wp g (by decide) (by decide) fun k5 t5 h6 h7 g => ?_
    walk_at "mp"
    obtain ⟨z, hz, y, rfl, hy⟩ : ∃ z, atI [PyData.str ("abzzzzzy" : Str), .str ("abzzzzzz" : Str), .str ("b" : Str)] k5 = some z ∧ ∃ y, z = .str y ∧ Yi y := pick3 h6 h7 ⟨_, rfl, .inl rfl⟩ ⟨_, rfl, .inr (.inl rfl)⟩ ⟨_, rfl, .inr (.inr rfl)⟩
    refine ⟨_, hz, ?_⟩
    walk_at "mp"
    exact h (.mk true b i y) t5 ⟨h4, h5, hy⟩ g
  rw [if_neg b9]
  walk_at "mp"
  by_cases b11 : k < 11
  · rw [if_pos b11]
    walk_at "mp"
    refine take_wp g (by decide) (by decide) fun k5 t5 h6 h7 g => ?_
    walk_at "mp"
    obtain ⟨z, hz, y, rfl, hy⟩ : ∃ z, atI [PyData.str ("abzzzzzy" : Str), .str ("abzzzzzz" : Str), .str ("b" : Str)] k5 = some z ∧ ∃ y, z = .str y ∧ Yi y := pick3 h6 h7 ⟨_, rfl, .inl rfl⟩ ⟨_, rfl, .inr (.inl rfl)⟩ ⟨_, rfl, .inr (.inr rfl)⟩
    refine ⟨_, hz, ?_⟩
    walk_at "mp"
    exact h (.mk false b i y) t5 ⟨h4, h5, hy⟩ g
  rw [if_neg b11]
  walk_at "mp"
  exact h (.mv true b i) t3 ⟨h4, h5⟩ g

end Mp

end
section
set_option Elab.async false
set_option linter.all false
set_option maxRecDepth 100000
set_option maxHeartbeats 2000000
set_option autoImplicit false
open PySem PySem.Spec PyProof.Rows L2 TL
namespace Mp
local macro_rules | `(tactic| walk_at "mp") => `(tactic| repeat (first | with_reducible refine StB_go ?_ | simp -implicitDefEqProofs only [st_seq, st_skip, st_pss, st_brk, st_cont, st_ret, st_retN, st_ex, st_asg, st_asgT, st_iff, st_setix, wo_comp, st_for, turnQ_nx, turnQ_ct, turnQ_bk, turnQ_ret, whileQ_nx, whileQ_ct, whileQ_bk, whileQ_ret, seqK_nx, seqK_ret, seqK_bk, seqK_ct, retQ_ret, retQ_nx, retX_eq,
  wp_ok, wp_ofO, wp_raise, wp_bad, callF_wp, we_con, we_glob, we_rd, we_pk, we_fz, we_neg, we_isi, we_rev, we_sset, we_tup, we_lst, we_bin, we_cmp, we_chain, we_and, we_or, we_not, we_one, we_ife, we_ix, we_sl, wpt_no, wpt_part, we_bi, we_mt0, we_mt1, we_ofr, we_app, we_ext, we_revL, we_pop, we_popAt,
  wes_nil, wes_cons, wt_nil, wt_and, wt_or, wt_not, wt_one, wt_cmp, wt_chain, wt_tru, wl_var, wl_fld, wl_ix, wl_key, wl_nk, wa_nil, wa_cons, wa_ava, wa_aro, wa_arw, wo_fz, wo_mv, wo_lst, wo_list, wo_range, wo_call, wo_meth, wo_make, isIns_eq, isInsT_ins, rwF_rw, st_setfld, st_raise, st_tryx, goH_some, goH_none, rh_nil, rh_cons, hok_nil, hok_cons, off_none, off_some, offB_no, offB_fz, offB_opt, hs_fall, hs_ret, ifK_t, ifK_f, hs_ifr, hb_b, hx_con, hx_fld, hx_isi, tupK_s, hx_tupE, andK_t, andK_f, orK_f, orK_t, notK_b, hx_and, hx_or, hx_not, hx_one, consK_s, hxs_nil, hxs_cons, List.zip_cons_cons, List.zip_nil_left, List.reverse_cons, List.reverse_nil, List.mem_cons, List.not_mem_nil, lookA, forK_nx, forK_ct, forK_bk, forK_ret, forR_nil, Option.getD_some, Option.isNone_none, lookA, putA, wos_nil, wos_cons, wi_r1, wi_r2, wi_r3, wi_rev, wi_itv, wi_itt, wi_its, wi_lkv,
  plS1_own, plS1_ro, plS1_al, rtS_own, rtS_ro, owS_own, readP_eq, ownP_eq, writeP_eq, dim_eq, setV_eq, getP_nil, getP_ix, getP_fld, getP_key, getP_nk, setP_nil, setP_ix, setP_fld, setP_key, setP_nk, late_nil, late_cons, lateA_val, lateA_nil, lateA_cons, tree_val, tree_rw, tree_ro, mok_nil, mok_val, mok_ro, mok_rw,
  treesOf_nil, treesOf_cons, rootsOk_nil, rootsOk_val, rootsOk_rw, rootsOk_ro, okRw_val, okRw_pth, okRo_val, okRo_rw, okRo_ro, backA_nil, backA_rw, backA_ro, backA_val, outT_nil, outT_rw, outT_val, outT_ro, intD_int, boolD_bool, strD1_str, fzT_fz, lsT_ls, lisD_list, insT_ins, dkT_dk, dnT_dn, seqD_list, seqD_tuple, tupD_tuple, isLs_eq,
  setT_eq, atS, canS_no, canS_own, canS_al, canS_opt, dropAl_no, dA_own, dA_ro, dropAl_al, dropAl_opt, dimS_no, dS_own, dimS_al, dimS_opt, quiet, data_fz, data_ls, bindT, slotsOf, slotOf, startE,
  List.map_cons, List.map_nil, List.set_cons_zero, List.set_cons_succ, List.length_cons, List.length_nil, List.append_nil, List.nil_append, List.cons_append, List.getElem?_cons_zero, List.getElem?_cons_succ, List.all_cons, List.all_nil, List.replicate_succ, List.replicate_zero,
  Bool.true_and, Bool.and_true, Bool.false_and, Bool.and_false, Bool.true_or, Bool.or_true, Bool.false_or, Bool.or_false, Bool.not_true, Bool.not_false, Bool.and_self, Option.some.injEq, exists_eq_left', exists_eq_left, true_and, and_true, ite_true, ite_false, if_true, if_false, reduceCtorEq, not_true_eq_false, not_false_eq_true, Option.bind_some, Option.map_some, Option.isSome_some, Bool.false_eq_true, reduceIte, nc0, nc1, nc2, nc3, nc4, nc5, nc6, nc7, nc8, nc9, nc10, nc11, nc12, nc13, nc14, nc15, nc16, ex_if, ex_ifm, ex_map, ex_bind, Bool.not_eq_true', decide_eq_true_eq, decide_true, decide_false,
  String.reduceEq, String.reduceNe, Nat.reduceEqDiff, Int.reduceAdd, Int.reduceSub, Int.reduceMul, Int.reduceNeg, Int.reduceLT, Int.reduceLE, Int.reduceEq, Int.reduceToNat, Int.reduceNe, gt_iff_lt, ge_iff_le, Nat.reduceLT, Nat.zero_lt_succ, Nat.reduceAdd, Nat.reduceSub, Nat.reduceLeDiff, sizeLine, Nat.reducePow, Nat.zero_add, Nat.add_zero, ne_eq,
  wipeOk_no, wipeOk_own, wipeOk_opt, wipe_nil, wipe_cons, bkS_no, bkS_own, bkS_opt, back_nil, back_cons, lk_r1, lk_r2, lk_r3, lk_rev, lk_itv, lk_itt, lk_its, unlk_r1, unlk_r2, unlk_r3, unlk_rev, unlk_itv, unlk_itt, unlk_its, atI_0, atI_1, atI_2, atI_3, atI_4, atI_5,
  r_listL, r_listT, cut2_3, cut2_4, cut3_3, cut3_4, r_tupL, r_tupT, isi_i, isi_l, isi_t, r_mulI, r_modI, r_fdivI, r_addS, r_addL, r_addT, r_mulL', r_slL, r_slT, r_slS, r_ixS, r_lenS, r_strI, r_strS, r_intS, r_any, r_all, r_sum, r_min2, r_max2, r_truI, r_truB, r_truL, r_truT, r_truN, r_split, r_inS, r_notinS, r_inT1, r_niT1, r_inT2, r_niT2, r_inT3, r_niT3, r_inT4, r_niT4, r_inT5, r_niT5, r_inT6, r_niT6, or_true, true_or, or_false, false_or, or_self, r_eqSS, r_neSS, strOk_ofString, ofStr_eq, r_eqII, r_neII, r_lt, r_le, r_gt, r_ge, r_add, r_sub, r_int, r_intB, r_abs, r_lenL, r_lenT, r_ixL, r_ixT, cn_f_sort_of_MAKES, fn_f_goes_on_f_sort_of, fn_f_cost_f_goes_on, fn_f_part_f_take, fn_f_law_cost_f_is_pass, fn_f_law_top_f_law_cost, fn_f_law_top_f_is_integer, fn_f_law_top_f_part, fn_f_law_top_f_state, fn_f_law_top_f_take, fn_f_law_top_f_cost, m_f_sort_of, rw_f_sort_of, m_f_goes_on, rw_f_goes_on, m_f_cost, rw_f_cost, m_f_is_integer, rw_f_is_integer, m_f_state, rw_f_state, m_f_take, rw_f_take, m_f_part, rw_f_part, m_f_is_pass, rw_f_is_pass, m_f_law_cost, rw_f_law_cost, m_f_law_top, rw_f_law_top]))

local macro_rules | `(tactic| walk_at "mb") => `(tactic| simp only [bindT, setT_eq, setV_eq, atS, canS_no, canS_own, canS_al, canS_opt, dropAl_no, dA_own, dA_ro, dropAl_al, dropAl_opt, List.map_cons, List.map_nil, List.set_cons_zero, List.set_cons_succ, Option.some.injEq, exists_eq_left', exists_eq_left, if_true, reduceIte, Nat.reduceAdd, lk_r1, lk_r2, lk_r3, lk_rev, lk_itv, lk_itt, lk_its, wipeOk_no, wipeOk_own, wipeOk_opt, wipe_nil, wipe_cons, Option.bind_some])

local macro_rules | `(tactic| walk_at "m1") => `(tactic| simp -implicitDefEqProofs only [st_seq, st_skip, st_pss, st_brk, st_cont, st_ret, st_retN, st_ex, st_asg, st_asgT, st_iff, st_setix, wo_comp, st_for, turnQ_nx, turnQ_ct, turnQ_bk, turnQ_ret, whileQ_nx, whileQ_ct, whileQ_bk, whileQ_ret, seqK_nx, seqK_ret, seqK_bk, seqK_ct, retQ_ret, retQ_nx, retX_eq,
  wp_ok, wp_ofO, wp_raise, wp_bad, callF_wp, we_con, we_glob, we_rd, we_pk, we_fz, we_neg, we_isi, we_rev, we_sset, we_tup, we_lst, we_bin, we_cmp, we_chain, we_and, we_or, we_not, we_one, we_ife, we_ix, we_sl, wpt_no, wpt_part, we_bi, we_mt0, we_mt1, we_ofr, we_app, we_ext, we_revL, we_pop, we_popAt,
  wes_nil, wes_cons, wt_nil, wt_and, wt_or, wt_not, wt_one, wt_cmp, wt_chain, wt_tru, wl_var, wl_fld, wl_ix, wl_key, wl_nk, wa_nil, wa_cons, wa_ava, wa_aro, wa_arw, wo_fz, wo_mv, wo_lst, wo_list, wo_range, wo_call, wo_meth, wo_make, isIns_eq, isInsT_ins, rwF_rw, st_setfld, st_raise, st_tryx, goH_some, goH_none, rh_nil, rh_cons, hok_nil, hok_cons, off_none, off_some, offB_no, offB_fz, offB_opt, hs_fall, hs_ret, ifK_t, ifK_f, hs_ifr, hb_b, hx_con, hx_fld, hx_isi, tupK_s, hx_tupE, andK_t, andK_f, orK_f, orK_t, notK_b, hx_and, hx_or, hx_not, hx_one, consK_s, hxs_nil, hxs_cons, List.zip_cons_cons, List.zip_nil_left, List.reverse_cons, List.reverse_nil, List.mem_cons, List.not_mem_nil, lookA, forK_nx, forK_ct, forK_bk, forK_ret, forR_nil, Option.getD_some, Option.isNone_none, lookA, putA, wos_nil, wos_cons, wi_r1, wi_r2, wi_r3, wi_rev, wi_itv, wi_itt, wi_its, wi_lkv,
  plS1_own, plS1_ro, plS1_al, rtS_own, rtS_ro, owS_own, readP_eq, ownP_eq, writeP_eq, dim_eq, setV_eq, getP_nil, getP_ix, getP_fld, getP_key, getP_nk, setP_nil, setP_ix, setP_fld, setP_key, setP_nk, late_nil, late_cons, lateA_val, lateA_nil, lateA_cons, tree_val, tree_rw, tree_ro, mok_nil, mok_val, mok_ro, mok_rw,
  treesOf_nil, treesOf_cons, rootsOk_nil, rootsOk_val, rootsOk_rw, rootsOk_ro, okRw_val, okRw_pth, okRo_val, okRo_rw, okRo_ro, backA_nil, backA_rw, backA_ro, backA_val, outT_nil, outT_rw, outT_val, outT_ro, intD_int, boolD_bool, strD1_str, fzT_fz, lsT_ls, lisD_list, insT_ins, dkT_dk, dnT_dn, seqD_list, seqD_tuple, tupD_tuple, isLs_eq,
  setT_eq, atS, canS_no, canS_own, canS_al, canS_opt, dropAl_no, dA_own, dA_ro, dropAl_al, dropAl_opt, dimS_no, dS_own, dimS_al, dimS_opt, quiet, data_fz, data_ls, bindT, slotsOf, slotOf, startE,
  List.map_cons, List.map_nil, List.set_cons_zero, List.set_cons_succ, List.length_cons, List.length_nil, List.append_nil, List.nil_append, List.cons_append, List.getElem?_cons_zero, List.getElem?_cons_succ, List.all_cons, List.all_nil, List.replicate_succ, List.replicate_zero,
  Bool.true_and, Bool.and_true, Bool.false_and, Bool.and_false, Bool.true_or, Bool.or_true, Bool.false_or, Bool.or_false, Bool.not_true, Bool.not_false, Bool.and_self, Option.some.injEq, exists_eq_left', exists_eq_left, true_and, and_true, ite_true, ite_false, if_true, if_false, reduceCtorEq, not_true_eq_false, not_false_eq_true, Option.bind_some, Option.map_some, Option.isSome_some, Bool.false_eq_true, reduceIte, nc0, nc1, nc2, nc3, nc4, nc5, nc6, nc7, nc8, nc9, nc10, nc11, nc12, nc13, nc14, nc15, nc16, ex_if, ex_ifm, ex_map, ex_bind, Bool.not_eq_true', decide_eq_true_eq, decide_true, decide_false,
  String.reduceEq, String.reduceNe, Nat.reduceEqDiff, Int.reduceAdd, Int.reduceSub, Int.reduceMul, Int.reduceNeg, Int.reduceLT, Int.reduceLE, Int.reduceEq, Int.reduceToNat, Int.reduceNe, gt_iff_lt, ge_iff_le, Nat.reduceLT, Nat.zero_lt_succ, Nat.reduceAdd, Nat.reduceSub, Nat.reduceLeDiff, sizeLine, Nat.reducePow, Nat.zero_add, Nat.add_zero, ne_eq,
  wipeOk_no, wipeOk_own, wipeOk_opt, wipe_nil, wipe_cons, bkS_no, bkS_own, bkS_opt, back_nil, back_cons, lk_r1, lk_r2, lk_r3, lk_rev, lk_itv, lk_itt, lk_its, unlk_r1, unlk_r2, unlk_r3, unlk_rev, unlk_itv, unlk_itt, unlk_its, atI_0, atI_1, atI_2, atI_3, atI_4, atI_5,
  r_listL, r_listT, cut2_3, cut2_4, cut3_3, cut3_4, r_tupL, r_tupT, isi_i, isi_l, isi_t, r_mulI, r_modI, r_fdivI, r_addS, r_addL, r_addT, r_mulL', r_slL, r_slT, r_slS, r_ixS, r_lenS, r_strI, r_strS, r_intS, r_any, r_all, r_sum, r_min2, r_max2, r_truI, r_truB, r_truL, r_truT, r_truN, r_split, r_inS, r_notinS, r_inT1, r_niT1, r_inT2, r_niT2, r_inT3, r_niT3, r_inT4, r_niT4, r_inT5, r_niT5, r_inT6, r_niT6, or_true, true_or, or_false, false_or, or_self, r_eqSS, r_neSS, strOk_ofString, ofStr_eq, r_eqII, r_neII, r_lt, r_le, r_gt, r_ge, r_add, r_sub, r_int, r_intB, r_abs, r_lenL, r_lenT, r_ixL, r_ixT, cn_f_sort_of_MAKES, fn_f_goes_on_f_sort_of, fn_f_cost_f_goes_on, fn_f_part_f_take, fn_f_law_cost_f_is_pass, fn_f_law_top_f_law_cost, fn_f_law_top_f_is_integer, fn_f_law_top_f_part, fn_f_law_top_f_state, fn_f_law_top_f_take, fn_f_law_top_f_cost, m_f_sort_of, rw_f_sort_of, m_f_goes_on, rw_f_goes_on, m_f_cost, rw_f_cost, m_f_is_integer, rw_f_is_integer, m_f_state, rw_f_state, m_f_take, rw_f_take, m_f_part, rw_f_part, m_f_is_pass, rw_f_is_pass, m_f_law_cost, rw_f_law_cost, m_f_law_top, rw_f_law_top])

/-! ### passes -/
def isMk : In → Bool
  | .mk .. => true
  | _ => false
def isRk : In → Bool
  | .rack _ => true
  | _ => false
def nd : In → Int
  | .rack r => r
  | .mv _ _ i => i
  | .mk _ _ i _ => i
/-- what instructions of one pass have in common -/
def so : In → Nat × Bool
  | .rack _ => (0, false)
  | .mk .. => (1, false)
  | .mv false b _ => (2, b)
  | .mv true b _ => (3, b)
def soD : In → PyData
  | .rack _ => .tuple [.str "rack", .str ""]
  | .mk .. => .tuple [.str "make", .str ""]
  | .mv d b _ => .tuple [.str (mvS d), .str (bedS b)]
theorem so_eq (x y : In) : opCmp .ne (soD x) (soD y) = some (!decide (so x = so y)) := by
  have key : ∀ a b c d : String, opCmp .ne (.tuple [.str (Str.ofString a), .str (Str.ofString b)]) (.tuple [.str (Str.ofString c), .str (Str.ofString d)]) = some (!(decide (a = c) && decide (b = d))) := fun a b c d => by
    show (eqD0 _ _).map _ = _
    unfold eqD0
    have s : ∀ a b : String, SeqAt.shaped (.tuple [.str (Str.ofString a), .str (Str.ofString b)]) = true := fun a b => by
      unfold SeqAt.shaped
      simp [PyData.canLay0, PyData.canLayAll0, PyData.depth, PyData.depthAll, strOk_ofString]
    rw [s, s]
    simp only [Bool.and_self, if_true, Option.map_some]
    congr 1
    congr 1
    unfold PyData.eqv PyData.eqvAll PyData.eqvAll PyData.eqvAll
    rw [eqv_str, eqv_str]
    simp only [ofStr_eq, Bool.and_true]
  cases x with
  | rack r => cases y with
    | rack _ => exact key _ _ _ _
    | mk _ _ _ _ => exact key _ _ _ _
    | mv d b _ => cases d <;> cases b <;> exact key _ _ _ _
  | mk _ _ _ _ => cases y with
    | rack _ => exact key _ _ _ _
    | mk _ _ _ _ => exact key _ _ _ _
    | mv d b _ => cases d <;> cases b <;> exact key _ _ _ _
  | mv d b i => cases d <;> cases b <;> cases y with
    | rack _ => exact key _ _ _ _
    | mk _ _ _ _ => exact key _ _ _ _
    | mv d b _ => cases d <;> cases b <;> exact key _ _ _ _
theorem sort_of_wp {c : In} {Q : T → List T → Prop} {X : Exn → List T → Prop} (q : Q (.fz (soD c)) [.fz c.enc]) : (vf_sort_of.run [.fz c.enc]).wp Q X := by
  refine run_wp (by decide) ?_
  simp only [df_sort_of]
  cases c with
  | rack r => simp only [In.enc, In.parts, soD] at q ⊢; walk_at "mp"; exact q
  | mk t b i y => cases t <;> (simp only [In.enc, In.parts, soD, mkS, Bool.false_eq_true, if_false, if_true] at q ⊢; walk_at "mp"; exact q)
  | mv d b i => cases d <;> (simp only [In.enc, In.parts, soD, mvS, Bool.false_eq_true, if_false, if_true] at q ⊢; walk_at "mp"; exact q)
/-- the needles go on -/
def gm : List Int → Int → Bool
  | [a], c => decide (c ≠ a)
  | a :: b :: r, c => (decide (0 < c - (a :: b :: r).getLast (by simp)) && decide (0 < b - a)) || (decide (c - (a :: b :: r).getLast (by simp) < 0) && decide (b - a < 0))
  | [], _ => false
/-- the pass goes on with one more -/
def go : List In → In → Bool
  | x :: r, y => decide (so y = so x) && !isRk y && gm ((x :: r).map nd) (nd y)
  | [], _ => false
theorem rk_so {x y : In} (h : so y = so x) : isRk y = isRk x := by
  have key : ∀ z : In, isRk z = decide ((so z).1 = 0) := fun z => by
    cases z with
    | mv d b i => cases d <;> rfl
    | _ => rfl
  rw [key, key, h]
def nx (xs : List In) : List In → Bool
  | [] => false
  | y :: _ => go xs y
theorem nd_ix {c : In} (h : isRk c = false) : ixD c.enc (.int 2) = some (.int (nd c)) := by
  cases c with
  | rack r => cases h
  | mv d b i => exact atI_2 _ _ _ _
  | mk t b i y => exact atI_2 _ _ _ _
theorem rk_ix (c : In) : ∃ k : Str, ixD c.enc (.int 0) = some (.str k) ∧ (k = ("rack" : Str) ↔ isRk c = true) := by
  cases c with
  | rack r => exact ⟨_, atI_0 _ _, by simp [isRk]⟩
  | mv d b i => exact ⟨_, atI_0 _ _, by cases d <;> simp [isRk, mvS, ofStr_eq]⟩
  | mk t b i y => exact ⟨_, atI_0 _ _, by cases t <;> simp [isRk, mkS, ofStr_eq]⟩
/-- a pass of instructions: alike, no rack among several -/
structure Ps (xs : List In) : Prop where
  ne : xs ≠ []
  al : ∀ x ∈ xs, so x = so (xs.head ne)
  rk : 1 < xs.length → ∀ x ∈ xs, isRk x = false
theorem goes_on_wp {v : Fn} (hv : vf_goes_on = v) {code pre xs rest : List In} (e : code = pre ++ (xs ++ rest)) (p : Ps xs) (hl : code.length ≤ 10000) {Q : T → List T → Prop} {X : Exn → List T → Prop}
    (q : Q (.fz (.bool (nx xs rest))) [.fz (.list (code.map In.enc)), .fz (.int (pre.length : Int)), .fz (.int ((pre.length + xs.length : Nat) : Int))]) :
    (v.run [.fz (.list (code.map In.enc)), .fz (.int (pre.length : Int)), .fz (.int ((pre.length + xs.length : Nat) : Int))]).wp Q X := by
  refine run_wpv hv (by decide) ?_
  simp only [df_goes_on]
  walk_at "mp"
  rw [List.length_map]
  have hlen : code.length = pre.length + (xs.length + rest.length) := by rw [e]; simp
  cases rest with
  | nil =>
    rw [if_pos (by simp only [List.length_nil] at hlen; omega)]
    walk_at "mp"
    exact q
  | cons y rest =>
    obtain ⟨x0, r, rfl⟩ : ∃ x0 r, xs = x0 :: r := by cases xs with | nil => exact absurd rfl p.ne | cons a b => exact ⟨a, b, rfl⟩
    rw [if_neg (by simp only [List.length_cons] at hlen ⊢; omega)]
    have a1 : code[pre.length + (x0 :: r).length]? = some y := by rw [e, List.getElem?_append_right (by omega), List.getElem?_append_right (by omega)]; simp
    have a0 : code[pre.length]? = some x0 := by rw [e, List.getElem?_append_right (by omega)]; simp
    walk_at "mp"
    refine ⟨_, in_at a1, ?_⟩
    walk_at "mp"
    refine sort_of_wp ?_
    walk_at "mp"
    refine ⟨_, in_at a0, ?_⟩
    walk_at "mp"
    refine sort_of_wp ?_
    walk_at "mp"
    refine ⟨_, so_eq y x0, ?_⟩
    by_cases h1 : so y = so x0
    case neg =>
      simp only [h1, decide_false]
      walk_at "mp"
      have : nx (x0 :: r) (y :: rest) = false := by unfold nx go; simp [h1]
      rw [this] at q
      exact q
    simp only [h1, decide_true]
    walk_at "mp"
    refine ⟨_, in_at a1, ?_⟩
    obtain ⟨kk, hk, hk2⟩ := rk_ix y
    refine ⟨_, hk, ?_⟩
    walk_at "mp"
    cases hr : isRk y with
    | true =>
      rw [if_pos (hk2.mpr hr)]
      walk_at "mp"
      have : nx (x0 :: r) (y :: rest) = false := by unfold nx go; simp [hr]
      rw [this] at q
      exact q
    | false =>
      rw [if_neg (fun z => by rw [hk2.mp z] at hr; cases hr)]
      walk_at "mp"
      have hx0 : isRk x0 = false := by rw [← rk_so h1]; exact hr
      have all : ∀ x ∈ x0 :: r, isRk x = false := fun x hx => by
        by_cases hl1 : 1 < (x0 :: r).length
        · exact p.rk hl1 x hx
        · have : r = [] := by cases r with | nil => rfl | cons _ _ => simp at hl1
          subst this
          rw [List.mem_singleton.mp hx]; exact hx0
      have hlast : code[pre.length + (r.length + 1) - 1]? = some ((x0 :: r).getLast (by simp)) := by
        rw [e, List.getElem?_append_right (by omega), List.getElem?_append_left (by simp only [List.length_cons]; omega), List.getLast_eq_getElem]
        rw [List.getElem?_eq_getElem (by simp only [List.length_cons]; omega)]
        congr 1
        simp only [List.length_cons]
        congr 1
        omega
      have lastR : isRk ((x0 :: r).getLast (by simp)) = false := all _ (List.getLast_mem _)
      have e1 : (((pre.length + (r.length + 1) : Nat) : Int) - 1) = ((pre.length + (r.length + 1) - 1 : Nat) : Int) := by omega
      refine ⟨_, in_at (by simpa using a1), _, nd_ix hr, ?_⟩
      rw [e1]
      refine ⟨_, in_at hlast, _, nd_ix lastR, ?_⟩
      walk_at "mp"
      have gq : nx (x0 :: r) (y :: rest) = gm ((x0 :: r).map nd) (nd y) := by
        show (decide (so y = so x0) && !isRk y && gm ((x0 :: r).map nd) (nd y)) = _
        rw [decide_eq_true h1, hr]
        rfl
      rw [gq] at q
      cases r with
      | nil =>
        rw [if_pos (by simp)]
        walk_at "mp"
        have : gm ([x0].map nd) (nd y) = !decide (nd y - nd x0 = 0) := by
          show decide (nd y ≠ nd x0) = _
          by_cases h : nd y = nd x0
          · simp [h]
          · rw [decide_eq_true h, decide_eq_false (by omega)]; rfl
        rw [this] at q
        exact q
      | cons x1 r =>
        rw [if_neg (by simp only [List.length_cons]; omega)]
        walk_at "mp"
        have a2 : code[pre.length + 1]? = some x1 := by rw [e, List.getElem?_append_right (by omega)]; simp
        have e2 : ((pre.length : Int) + 1) = ((pre.length + 1 : Nat) : Int) := rfl
        rw [e2]
        refine ⟨_, in_at a2, _, nd_ix (all x1 (by simp)), _, in_at a0, _, nd_ix hx0, ?_⟩
        walk_at "mp"
        have el : ((x0 :: x1 :: r).map nd).getLast (by simp) = nd ((x0 :: x1 :: r).getLast (by simp)) := by
          rw [List.getLast_map]
        have gg : gm ((x0 :: x1 :: r).map nd) (nd y) = ((decide (0 < nd y - nd ((x0 :: x1 :: r).getLast (by simp))) && decide (0 < nd x1 - nd x0)) || (decide (nd y - nd ((x0 :: x1 :: r).getLast (by simp)) < 0) && decide (nd x1 - nd x0 < 0))) := by
          rw [← el]; rfl
        rw [gg] at q
        generalize nd y - nd ((x0 :: x1 :: r).getLast (by simp)) = sd at q ⊢
        generalize nd x1 - nd x0 = fd at q ⊢
        by_cases p1 : 0 < sd <;> by_cases p2 : 0 < fd <;> by_cases p3 : sd < 0 <;> by_cases p4 : fd < 0 <;> simp only [p1, p2, p3, p4, decide_true, decide_false, Bool.and_self, Bool.and_true, Bool.and_false, Bool.true_and, Bool.false_and, Bool.or_true, Bool.or_false, Bool.true_or, Bool.false_or, if_true, if_false] at q ⊢ <;> exact q

end Mp

end
section
set_option Elab.async false
set_option linter.all false
set_option maxRecDepth 100000
set_option maxHeartbeats 2000000
set_option autoImplicit false
open PySem PySem.Spec PyProof.Rows L2 TL
namespace Mp
local macro_rules | `(tactic| walk_at "mp") => `(tactic| repeat (first | with_reducible refine StB_go ?_ | simp -implicitDefEqProofs only [st_seq, st_skip, st_pss, st_brk, st_cont, st_ret, st_retN, st_ex, st_asg, st_asgT, st_iff, st_setix, wo_comp, st_for, turnQ_nx, turnQ_ct, turnQ_bk, turnQ_ret, whileQ_nx, whileQ_ct, whileQ_bk, whileQ_ret, seqK_nx, seqK_ret, seqK_bk, seqK_ct, retQ_ret, retQ_nx, retX_eq,
  wp_ok, wp_ofO, wp_raise, wp_bad, callF_wp, we_con, we_glob, we_rd, we_pk, we_fz, we_neg, we_isi, we_rev, we_sset, we_tup, we_lst, we_bin, we_cmp, we_chain, we_and, we_or, we_not, we_one, we_ife, we_ix, we_sl, wpt_no, wpt_part, we_bi, we_mt0, we_mt1, we_ofr, we_app, we_ext, we_revL, we_pop, we_popAt,
  wes_nil, wes_cons, wt_nil, wt_and, wt_or, wt_not, wt_one, wt_cmp, wt_chain, wt_tru, wl_var, wl_fld, wl_ix, wl_key, wl_nk, wa_nil, wa_cons, wa_ava, wa_aro, wa_arw, wo_fz, wo_mv, wo_lst, wo_list, wo_range, wo_call, wo_meth, wo_make, isIns_eq, isInsT_ins, rwF_rw, st_setfld, st_raise, st_tryx, goH_some, goH_none, rh_nil, rh_cons, hok_nil, hok_cons, off_none, off_some, offB_no, offB_fz, offB_opt, hs_fall, hs_ret, ifK_t, ifK_f, hs_ifr, hb_b, hx_con, hx_fld, hx_isi, tupK_s, hx_tupE, andK_t, andK_f, orK_f, orK_t, notK_b, hx_and, hx_or, hx_not, hx_one, consK_s, hxs_nil, hxs_cons, List.zip_cons_cons, List.zip_nil_left, List.reverse_cons, List.reverse_nil, List.mem_cons, List.not_mem_nil, lookA, forK_nx, forK_ct, forK_bk, forK_ret, forR_nil, Option.getD_some, Option.isNone_none, lookA, putA, wos_nil, wos_cons, wi_r1, wi_r2, wi_r3, wi_rev, wi_itv, wi_itt, wi_its, wi_lkv,
  plS1_own, plS1_ro, plS1_al, rtS_own, rtS_ro, owS_own, readP_eq, ownP_eq, writeP_eq, dim_eq, setV_eq, getP_nil, getP_ix, getP_fld, getP_key, getP_nk, setP_nil, setP_ix, setP_fld, setP_key, setP_nk, late_nil, late_cons, lateA_val, lateA_nil, lateA_cons, tree_val, tree_rw, tree_ro, mok_nil, mok_val, mok_ro, mok_rw,
  treesOf_nil, treesOf_cons, rootsOk_nil, rootsOk_val, rootsOk_rw, rootsOk_ro, okRw_val, okRw_pth, okRo_val, okRo_rw, okRo_ro, backA_nil, backA_rw, backA_ro, backA_val, outT_nil, outT_rw, outT_val, outT_ro, intD_int, boolD_bool, strD1_str, fzT_fz, lsT_ls, lisD_list, insT_ins, dkT_dk, dnT_dn, seqD_list, seqD_tuple, tupD_tuple, isLs_eq,
  setT_eq, atS, canS_no, canS_own, canS_al, canS_opt, dropAl_no, dA_own, dA_ro, dropAl_al, dropAl_opt, dimS_no, dS_own, dimS_al, dimS_opt, quiet, data_fz, data_ls, bindT, slotsOf, slotOf, startE,
  List.map_cons, List.map_nil, List.set_cons_zero, List.set_cons_succ, List.length_cons, List.length_nil, List.append_nil, List.nil_append, List.cons_append, List.getElem?_cons_zero, List.getElem?_cons_succ, List.all_cons, List.all_nil, List.replicate_succ, List.replicate_zero,
  Bool.true_and, Bool.and_true, Bool.false_and, Bool.and_false, Bool.true_or, Bool.or_true, Bool.false_or, Bool.or_false, Bool.not_true, Bool.not_false, Bool.and_self, Option.some.injEq, exists_eq_left', exists_eq_left, true_and, and_true, ite_true, ite_false, if_true, if_false, reduceCtorEq, not_true_eq_false, not_false_eq_true, Option.bind_some, Option.map_some, Option.isSome_some, Bool.false_eq_true, reduceIte, nc0, nc1, nc2, nc3, nc4, nc5, nc6, nc7, nc8, nc9, nc10, nc11, nc12, nc13, nc14, nc15, nc16, ex_if, ex_ifm, ex_map, ex_bind, Bool.not_eq_true', decide_eq_true_eq, decide_true, decide_false,
  String.reduceEq, String.reduceNe, Nat.reduceEqDiff, Int.reduceAdd, Int.reduceSub, Int.reduceMul, Int.reduceNeg, Int.reduceLT, Int.reduceLE, Int.reduceEq, Int.reduceToNat, Int.reduceNe, gt_iff_lt, ge_iff_le, Nat.reduceLT, Nat.zero_lt_succ, Nat.reduceAdd, Nat.reduceSub, Nat.reduceLeDiff, sizeLine, Nat.reducePow, Nat.zero_add, Nat.add_zero, ne_eq,
  wipeOk_no, wipeOk_own, wipeOk_opt, wipe_nil, wipe_cons, bkS_no, bkS_own, bkS_opt, back_nil, back_cons, lk_r1, lk_r2, lk_r3, lk_rev, lk_itv, lk_itt, lk_its, unlk_r1, unlk_r2, unlk_r3, unlk_rev, unlk_itv, unlk_itt, unlk_its, atI_0, atI_1, atI_2, atI_3, atI_4, atI_5,
  r_listL, r_listT, cut2_3, cut2_4, cut3_3, cut3_4, r_tupL, r_tupT, isi_i, isi_l, isi_t, r_mulI, r_modI, r_fdivI, r_addS, r_addL, r_addT, r_mulL', r_slL, r_slT, r_slS, r_ixS, r_lenS, r_strI, r_strS, r_intS, r_any, r_all, r_sum, r_min2, r_max2, r_truI, r_truB, r_truL, r_truT, r_truN, r_split, r_inS, r_notinS, r_inT1, r_niT1, r_inT2, r_niT2, r_inT3, r_niT3, r_inT4, r_niT4, r_inT5, r_niT5, r_inT6, r_niT6, or_true, true_or, or_false, false_or, or_self, r_eqSS, r_neSS, strOk_ofString, ofStr_eq, r_eqII, r_neII, r_lt, r_le, r_gt, r_ge, r_add, r_sub, r_int, r_intB, r_abs, r_lenL, r_lenT, r_ixL, r_ixT, cn_f_sort_of_MAKES, fn_f_goes_on_f_sort_of, fn_f_cost_f_goes_on, fn_f_part_f_take, fn_f_law_cost_f_is_pass, fn_f_law_top_f_law_cost, fn_f_law_top_f_is_integer, fn_f_law_top_f_part, fn_f_law_top_f_state, fn_f_law_top_f_take, fn_f_law_top_f_cost, m_f_sort_of, rw_f_sort_of, m_f_goes_on, rw_f_goes_on, m_f_cost, rw_f_cost, m_f_is_integer, rw_f_is_integer, m_f_state, rw_f_state, m_f_take, rw_f_take, m_f_part, rw_f_part, m_f_is_pass, rw_f_is_pass, m_f_law_cost, rw_f_law_cost, m_f_law_top, rw_f_law_top]))

local macro_rules | `(tactic| walk_at "mb") => `(tactic| simp only [bindT, setT_eq, setV_eq, atS, canS_no, canS_own, canS_al, canS_opt, dropAl_no, dA_own, dA_ro, dropAl_al, dropAl_opt, List.map_cons, List.map_nil, List.set_cons_zero, List.set_cons_succ, Option.some.injEq, exists_eq_left', exists_eq_left, if_true, reduceIte, Nat.reduceAdd, lk_r1, lk_r2, lk_r3, lk_rev, lk_itv, lk_itt, lk_its, wipeOk_no, wipeOk_own, wipeOk_opt, wipe_nil, wipe_cons, Option.bind_some])

local macro_rules | `(tactic| walk_at "m1") => `(tactic| simp -implicitDefEqProofs only [st_seq, st_skip, st_pss, st_brk, st_cont, st_ret, st_retN, st_ex, st_asg, st_asgT, st_iff, st_setix, wo_comp, st_for, turnQ_nx, turnQ_ct, turnQ_bk, turnQ_ret, whileQ_nx, whileQ_ct, whileQ_bk, whileQ_ret, seqK_nx, seqK_ret, seqK_bk, seqK_ct, retQ_ret, retQ_nx, retX_eq,
  wp_ok, wp_ofO, wp_raise, wp_bad, callF_wp, we_con, we_glob, we_rd, we_pk, we_fz, we_neg, we_isi, we_rev, we_sset, we_tup, we_lst, we_bin, we_cmp, we_chain, we_and, we_or, we_not, we_one, we_ife, we_ix, we_sl, wpt_no, wpt_part, we_bi, we_mt0, we_mt1, we_ofr, we_app, we_ext, we_revL, we_pop, we_popAt,
  wes_nil, wes_cons, wt_nil, wt_and, wt_or, wt_not, wt_one, wt_cmp, wt_chain, wt_tru, wl_var, wl_fld, wl_ix, wl_key, wl_nk, wa_nil, wa_cons, wa_ava, wa_aro, wa_arw, wo_fz, wo_mv, wo_lst, wo_list, wo_range, wo_call, wo_meth, wo_make, isIns_eq, isInsT_ins, rwF_rw, st_setfld, st_raise, st_tryx, goH_some, goH_none, rh_nil, rh_cons, hok_nil, hok_cons, off_none, off_some, offB_no, offB_fz, offB_opt, hs_fall, hs_ret, ifK_t, ifK_f, hs_ifr, hb_b, hx_con, hx_fld, hx_isi, tupK_s, hx_tupE, andK_t, andK_f, orK_f, orK_t, notK_b, hx_and, hx_or, hx_not, hx_one, consK_s, hxs_nil, hxs_cons, List.zip_cons_cons, List.zip_nil_left, List.reverse_cons, List.reverse_nil, List.mem_cons, List.not_mem_nil, lookA, forK_nx, forK_ct, forK_bk, forK_ret, forR_nil, Option.getD_some, Option.isNone_none, lookA, putA, wos_nil, wos_cons, wi_r1, wi_r2, wi_r3, wi_rev, wi_itv, wi_itt, wi_its, wi_lkv,
  plS1_own, plS1_ro, plS1_al, rtS_own, rtS_ro, owS_own, readP_eq, ownP_eq, writeP_eq, dim_eq, setV_eq, getP_nil, getP_ix, getP_fld, getP_key, getP_nk, setP_nil, setP_ix, setP_fld, setP_key, setP_nk, late_nil, late_cons, lateA_val, lateA_nil, lateA_cons, tree_val, tree_rw, tree_ro, mok_nil, mok_val, mok_ro, mok_rw,
  treesOf_nil, treesOf_cons, rootsOk_nil, rootsOk_val, rootsOk_rw, rootsOk_ro, okRw_val, okRw_pth, okRo_val, okRo_rw, okRo_ro, backA_nil, backA_rw, backA_ro, backA_val, outT_nil, outT_rw, outT_val, outT_ro, intD_int, boolD_bool, strD1_str, fzT_fz, lsT_ls, lisD_list, insT_ins, dkT_dk, dnT_dn, seqD_list, seqD_tuple, tupD_tuple, isLs_eq,
  setT_eq, atS, canS_no, canS_own, canS_al, canS_opt, dropAl_no, dA_own, dA_ro, dropAl_al, dropAl_opt, dimS_no, dS_own, dimS_al, dimS_opt, quiet, data_fz, data_ls, bindT, slotsOf, slotOf, startE,
  List.map_cons, List.map_nil, List.set_cons_zero, List.set_cons_succ, List.length_cons, List.length_nil, List.append_nil, List.nil_append, List.cons_append, List.getElem?_cons_zero, List.getElem?_cons_succ, List.all_cons, List.all_nil, List.replicate_succ, List.replicate_zero,
  Bool.true_and, Bool.and_true, Bool.false_and, Bool.and_false, Bool.true_or, Bool.or_true, Bool.false_or, Bool.or_false, Bool.not_true, Bool.not_false, Bool.and_self, Option.some.injEq, exists_eq_left', exists_eq_left, true_and, and_true, ite_true, ite_false, if_true, if_false, reduceCtorEq, not_true_eq_false, not_false_eq_true, Option.bind_some, Option.map_some, Option.isSome_some, Bool.false_eq_true, reduceIte, nc0, nc1, nc2, nc3, nc4, nc5, nc6, nc7, nc8, nc9, nc10, nc11, nc12, nc13, nc14, nc15, nc16, ex_if, ex_ifm, ex_map, ex_bind, Bool.not_eq_true', decide_eq_true_eq, decide_true, decide_false,
  String.reduceEq, String.reduceNe, Nat.reduceEqDiff, Int.reduceAdd, Int.reduceSub, Int.reduceMul, Int.reduceNeg, Int.reduceLT, Int.reduceLE, Int.reduceEq, Int.reduceToNat, Int.reduceNe, gt_iff_lt, ge_iff_le, Nat.reduceLT, Nat.zero_lt_succ, Nat.reduceAdd, Nat.reduceSub, Nat.reduceLeDiff, sizeLine, Nat.reducePow, Nat.zero_add, Nat.add_zero, ne_eq,
  wipeOk_no, wipeOk_own, wipeOk_opt, wipe_nil, wipe_cons, bkS_no, bkS_own, bkS_opt, back_nil, back_cons, lk_r1, lk_r2, lk_r3, lk_rev, lk_itv, lk_itt, lk_its, unlk_r1, unlk_r2, unlk_r3, unlk_rev, unlk_itv, unlk_itt, unlk_its, atI_0, atI_1, atI_2, atI_3, atI_4, atI_5,
  r_listL, r_listT, cut2_3, cut2_4, cut3_3, cut3_4, r_tupL, r_tupT, isi_i, isi_l, isi_t, r_mulI, r_modI, r_fdivI, r_addS, r_addL, r_addT, r_mulL', r_slL, r_slT, r_slS, r_ixS, r_lenS, r_strI, r_strS, r_intS, r_any, r_all, r_sum, r_min2, r_max2, r_truI, r_truB, r_truL, r_truT, r_truN, r_split, r_inS, r_notinS, r_inT1, r_niT1, r_inT2, r_niT2, r_inT3, r_niT3, r_inT4, r_niT4, r_inT5, r_niT5, r_inT6, r_niT6, or_true, true_or, or_false, false_or, or_self, r_eqSS, r_neSS, strOk_ofString, ofStr_eq, r_eqII, r_neII, r_lt, r_le, r_gt, r_ge, r_add, r_sub, r_int, r_intB, r_abs, r_lenL, r_lenT, r_ixL, r_ixT, cn_f_sort_of_MAKES, fn_f_goes_on_f_sort_of, fn_f_cost_f_goes_on, fn_f_part_f_take, fn_f_law_cost_f_is_pass, fn_f_law_top_f_law_cost, fn_f_law_top_f_is_integer, fn_f_law_top_f_part, fn_f_law_top_f_state, fn_f_law_top_f_take, fn_f_law_top_f_cost, m_f_sort_of, rw_f_sort_of, m_f_goes_on, rw_f_goes_on, m_f_cost, rw_f_cost, m_f_is_integer, rw_f_is_integer, m_f_state, rw_f_state, m_f_take, rw_f_take, m_f_part, rw_f_part, m_f_is_pass, rw_f_is_pass, m_f_law_cost, rw_f_law_cost, m_f_law_top, rw_f_law_top])

/-- how many passes: the one under way, the rest -/
def seg : List In → List In → Nat
  | _, [] => 1
  | xs, y :: r => if go xs y then seg (xs ++ [y]) r else 1 + seg [y] r
def csts : List In → Nat
  | [] => 0
  | x :: r => seg [x] r
theorem csts_cons (x : In) (r : List In) : csts (x :: r) = seg [x] r := rfl
theorem ps_one (x : In) : Ps [x] := ⟨by simp, fun y hy => by rw [List.mem_singleton.mp hy]; rfl, fun h => by simp at h⟩
theorem ps_go {xs : List In} {y : In} (p : Ps xs) (h : go xs y = true) : Ps (xs ++ [y]) := by
  obtain ⟨x0, r, rfl⟩ : ∃ x0 r, xs = x0 :: r := by cases xs with | nil => exact absurd rfl p.ne | cons a b => exact ⟨a, b, rfl⟩
  unfold go at h
  simp only [Bool.and_eq_true, decide_eq_true_eq, Bool.not_eq_true'] at h
  obtain ⟨⟨h1, h2⟩, _⟩ := h
  have hx0 : isRk x0 = false := by rw [← rk_so h1]; exact h2
  refine ⟨by simp, fun x hx => ?_, fun _ x hx => ?_⟩
  · show so x = so x0
    rcases List.mem_append.mp hx with hx | hx
    · exact p.al x hx
    · rw [List.mem_singleton.mp hx]; exact h1
  · rcases List.mem_append.mp hx with hx | hx
    · rw [rk_so (x := x0) (p.al x hx)]; exact hx0
    · rw [List.mem_singleton.mp hx]; exact h2
theorem cost_wp {v : Fn} (hv : vf_cost = v) {code : List In} (hl : code.length ≤ 10000) {Q : T → List T → Prop} {X : Exn → List T → Prop}
    (q : Q (.fz (.int (csts code : Int))) [.fz (.list (code.map In.enc))]) : (v.run [.fz (.list (code.map In.enc))]).wp Q X := by
  refine run_wpv hv (by decide) ?_
  simp only [df_cost]
  walk_at "mp"
  refine while_intro (fun m e => ∃ (k : Nat) (rest : List In) (cnt : Nat) (o3 : Option PyData), code.drop k = rest ∧ k + rest.length = code.length ∧ cnt + csts rest = csts code ∧ m = rest.length ∧
    e = [.own (.fz (.list (code.map In.enc))), .own (.fz (.int (cnt : Int))), .own (.fz (.int (k : Int))), opt o3]) code.length (by unfold FUEL; omega) ⟨0, code, 0, none, rfl, by simp, by simp, rfl, rfl⟩ ?_
  rintro m e ⟨k, rest, cnt, o3, e1, e2, e3, rfl, rfl⟩
  walk_at "mp"
  rw [List.length_map]
  cases rest with
  | nil =>
    rw [if_neg (by simp only [List.length_nil] at e2; omega)]
    walk_at "mp"
    have : cnt = csts code := e3
    rw [this]
    exact q
  | cons x rest =>
    rw [if_pos (by simp only [List.length_cons] at e2; omega)]
    walk_at "mp"
    have ec : code = code.take k ++ ([x] ++ rest) := by rw [List.singleton_append, ← e1, List.take_append_drop]
    have hk : (code.take k).length = k := by rw [List.length_take]; omega
    refine while_intro (fun m e => ∃ (xs rest2 : List In), code = code.take k ++ (xs ++ rest2) ∧ Ps xs ∧ cnt + seg xs rest2 = csts code ∧ rest2.length ≤ rest.length ∧ m = rest2.length ∧
      e = [.own (.fz (.list (code.map In.enc))), .own (.fz (.int (cnt : Int))), .own (.fz (.int ((k + xs.length : Nat) : Int))), .own (.fz (.int (k : Int)))]) rest.length (by simp only [List.length_cons] at e2; unfold FUEL; omega) ⟨[x], rest, ec, ps_one x, e3, Nat.le_refl _, rfl, rfl⟩ ?_
    rintro m2 e ⟨xs, rest2, f1, f2, f3, f4, rfl, rfl⟩
    walk_at "mp"
    generalize hw : vf_goes_on = w
    have hgo := @goes_on_wp w hw code (code.take k) xs rest2 f1 f2 hl
    rw [hk] at hgo
    refine hgo ?_
    subst hw
    walk_at "mp"
    have len2 : k + (xs.length + rest2.length) = code.length := by
      have := congrArg List.length f1
      rw [List.length_append, List.length_append, hk] at this
      exact this.symm
    have stop : cnt + 1 + csts rest2 = csts code → ∃ m, m < (x :: rest).length ∧ ∃ (k' : Nat) (rest' : List In) (cnt' : Nat) (o3 : Option PyData), code.drop k' = rest' ∧ k' + rest'.length = code.length ∧ cnt' + csts rest' = csts code ∧ m = rest'.length ∧
        [Sl.own (.fz (.list (code.map In.enc))), .own (.fz (.int ((cnt : Int) + 1))), .own (.fz (.int ((k + xs.length : Nat) : Int))), .own (.fz (.int (k : Int)))] = [.own (.fz (.list (code.map In.enc))), .own (.fz (.int (cnt' : Int))), .own (.fz (.int (k' : Int))), opt o3] := fun h => by
      refine ⟨rest2.length, by simp only [List.length_cons]; omega, k + xs.length, rest2, cnt + 1, some (.int (k : Int)), ?_, by omega, h, rfl, rfl⟩
      have := congrArg (List.drop (k + xs.length)) f1
      rw [this, List.drop_append, List.drop_append, hk]
      simp
      omega
    cases rest2 with
    | nil =>
      show if (nx xs []) = true then _ else _
      simp only [nx]
      walk_at "mp"
      exact stop (by rw [← f3]; rfl)
    | cons y rest2 =>
      show if (nx xs (y :: rest2)) = true then _ else _
      rw [show nx xs (y :: rest2) = go xs y from rfl]
      by_cases hg : go xs y = true
      · rw [if_pos hg]
        walk_at "mp"
        refine ⟨rest2.length, Nat.lt_succ_self _, xs ++ [y], rest2, f1.trans (by rw [List.append_assoc xs, List.singleton_append]), ps_go f2 hg, ?_, by simp only [List.length_cons] at f4; omega, rfl, ?_⟩
        · rw [← f3]
          show cnt + seg (xs ++ [y]) rest2 = cnt + (if go xs y then seg (xs ++ [y]) rest2 else 1 + seg [y] rest2)
          rw [hg]; rfl
        · rw [List.length_append]; rfl
      · rw [if_neg hg]
        walk_at "mp"
        refine stop ?_
        rw [← f3]
        show cnt + 1 + seg [y] rest2 = cnt + (if go xs y then seg (xs ++ [y]) rest2 else 1 + seg [y] rest2)
        rw [if_neg hg]
        omega

end Mp

end
section
set_option Elab.async false
set_option linter.all false
set_option maxRecDepth 100000
set_option maxHeartbeats 2000000
set_option autoImplicit false
open PySem PySem.Spec PyProof.Rows L2 TL
namespace Mp
local macro_rules | `(tactic| walk_at "mp") => `(tactic| repeat (first | with_reducible refine StB_go ?_ | simp -implicitDefEqProofs only [st_seq, st_skip, st_pss, st_brk, st_cont, st_ret, st_retN, st_ex, st_asg, st_asgT, st_iff, st_setix, wo_comp, st_for, turnQ_nx, turnQ_ct, turnQ_bk, turnQ_ret, whileQ_nx, whileQ_ct, whileQ_bk, whileQ_ret, seqK_nx, seqK_ret, seqK_bk, seqK_ct, retQ_ret, retQ_nx, retX_eq,
  wp_ok, wp_ofO, wp_raise, wp_bad, callF_wp, we_con, we_glob, we_rd, we_pk, we_fz, we_neg, we_isi, we_rev, we_sset, we_tup, we_lst, we_bin, we_cmp, we_chain, we_and, we_or, we_not, we_one, we_ife, we_ix, we_sl, wpt_no, wpt_part, we_bi, we_mt0, we_mt1, we_ofr, we_app, we_ext, we_revL, we_pop, we_popAt,
  wes_nil, wes_cons, wt_nil, wt_and, wt_or, wt_not, wt_one, wt_cmp, wt_chain, wt_tru, wl_var, wl_fld, wl_ix, wl_key, wl_nk, wa_nil, wa_cons, wa_ava, wa_aro, wa_arw, wo_fz, wo_mv, wo_lst, wo_list, wo_range, wo_call, wo_meth, wo_make, isIns_eq, isInsT_ins, rwF_rw, st_setfld, st_raise, st_tryx, goH_some, goH_none, rh_nil, rh_cons, hok_nil, hok_cons, off_none, off_some, offB_no, offB_fz, offB_opt, hs_fall, hs_ret, ifK_t, ifK_f, hs_ifr, hb_b, hx_con, hx_fld, hx_isi, tupK_s, hx_tupE, andK_t, andK_f, orK_f, orK_t, notK_b, hx_and, hx_or, hx_not, hx_one, consK_s, hxs_nil, hxs_cons, List.zip_cons_cons, List.zip_nil_left, List.reverse_cons, List.reverse_nil, List.mem_cons, List.not_mem_nil, lookA, forK_nx, forK_ct, forK_bk, forK_ret, forR_nil, Option.getD_some, Option.isNone_none, lookA, putA, wos_nil, wos_cons, wi_r1, wi_r2, wi_r3, wi_rev, wi_itv, wi_itt, wi_its, wi_lkv,
  plS1_own, plS1_ro, plS1_al, rtS_own, rtS_ro, owS_own, readP_eq, ownP_eq, writeP_eq, dim_eq, setV_eq, getP_nil, getP_ix, getP_fld, getP_key, getP_nk, setP_nil, setP_ix, setP_fld, setP_key, setP_nk, late_nil, late_cons, lateA_val, lateA_nil, lateA_cons, tree_val, tree_rw, tree_ro, mok_nil, mok_val, mok_ro, mok_rw,
  treesOf_nil, treesOf_cons, rootsOk_nil, rootsOk_val, rootsOk_rw, rootsOk_ro, okRw_val, okRw_pth, okRo_val, okRo_rw, okRo_ro, backA_nil, backA_rw, backA_ro, backA_val, outT_nil, outT_rw, outT_val, outT_ro, intD_int, boolD_bool, strD1_str, fzT_fz, lsT_ls, lisD_list, insT_ins, dkT_dk, dnT_dn, seqD_list, seqD_tuple, tupD_tuple, isLs_eq,
  setT_eq, atS, canS_no, canS_own, canS_al, canS_opt, dropAl_no, dA_own, dA_ro, dropAl_al, dropAl_opt, dimS_no, dS_own, dimS_al, dimS_opt, quiet, data_fz, data_ls, bindT, slotsOf, slotOf, startE,
  List.map_cons, List.map_nil, List.set_cons_zero, List.set_cons_succ, List.length_cons, List.length_nil, List.append_nil, List.nil_append, List.cons_append, List.getElem?_cons_zero, List.getElem?_cons_succ, List.all_cons, List.all_nil, List.replicate_succ, List.replicate_zero,
  Bool.true_and, Bool.and_true, Bool.false_and, Bool.and_false, Bool.true_or, Bool.or_true, Bool.false_or, Bool.or_false, Bool.not_true, Bool.not_false, Bool.and_self, Option.some.injEq, exists_eq_left', exists_eq_left, true_and, and_true, ite_true, ite_false, if_true, if_false, reduceCtorEq, not_true_eq_false, not_false_eq_true, Option.bind_some, Option.map_some, Option.isSome_some, Bool.false_eq_true, reduceIte, nc0, nc1, nc2, nc3, nc4, nc5, nc6, nc7, nc8, nc9, nc10, nc11, nc12, nc13, nc14, nc15, nc16, ex_if, ex_ifm, ex_map, ex_bind, Bool.not_eq_true', decide_eq_true_eq, decide_true, decide_false,
  String.reduceEq, String.reduceNe, Nat.reduceEqDiff, Int.reduceAdd, Int.reduceSub, Int.reduceMul, Int.reduceNeg, Int.reduceLT, Int.reduceLE, Int.reduceEq, Int.reduceToNat, Int.reduceNe, gt_iff_lt, ge_iff_le, Nat.reduceLT, Nat.zero_lt_succ, Nat.reduceAdd, Nat.reduceSub, Nat.reduceLeDiff, sizeLine, Nat.reducePow, Nat.zero_add, Nat.add_zero, ne_eq,
  wipeOk_no, wipeOk_own, wipeOk_opt, wipe_nil, wipe_cons, bkS_no, bkS_own, bkS_opt, back_nil, back_cons, lk_r1, lk_r2, lk_r3, lk_rev, lk_itv, lk_itt, lk_its, unlk_r1, unlk_r2, unlk_r3, unlk_rev, unlk_itv, unlk_itt, unlk_its, atI_0, atI_1, atI_2, atI_3, atI_4, atI_5,
  r_listL, r_listT, cut2_3, cut2_4, cut3_3, cut3_4, r_tupL, r_tupT, isi_i, isi_l, isi_t, r_mulI, r_modI, r_fdivI, r_addS, r_addL, r_addT, r_mulL', r_slL, r_slT, r_slS, r_ixS, r_lenS, r_strI, r_strS, r_intS, r_any, r_all, r_sum, r_min2, r_max2, r_truI, r_truB, r_truL, r_truT, r_truN, r_split, r_inS, r_notinS, r_inT1, r_niT1, r_inT2, r_niT2, r_inT3, r_niT3, r_inT4, r_niT4, r_inT5, r_niT5, r_inT6, r_niT6, or_true, true_or, or_false, false_or, or_self, r_eqSS, r_neSS, strOk_ofString, ofStr_eq, r_eqII, r_neII, r_lt, r_le, r_gt, r_ge, r_add, r_sub, r_int, r_intB, r_abs, r_lenL, r_lenT, r_ixL, r_ixT, cn_f_sort_of_MAKES, fn_f_goes_on_f_sort_of, fn_f_cost_f_goes_on, fn_f_part_f_take, fn_f_law_cost_f_is_pass, fn_f_law_top_f_law_cost, fn_f_law_top_f_is_integer, fn_f_law_top_f_part, fn_f_law_top_f_state, fn_f_law_top_f_take, fn_f_law_top_f_cost, m_f_sort_of, rw_f_sort_of, m_f_goes_on, rw_f_goes_on, m_f_cost, rw_f_cost, m_f_is_integer, rw_f_is_integer, m_f_state, rw_f_state, m_f_take, rw_f_take, m_f_part, rw_f_part, m_f_is_pass, rw_f_is_pass, m_f_law_cost, rw_f_law_cost, m_f_law_top, rw_f_law_top]))

local macro_rules | `(tactic| walk_at "mb") => `(tactic| simp only [bindT, setT_eq, setV_eq, atS, canS_no, canS_own, canS_al, canS_opt, dropAl_no, dA_own, dA_ro, dropAl_al, dropAl_opt, List.map_cons, List.map_nil, List.set_cons_zero, List.set_cons_succ, Option.some.injEq, exists_eq_left', exists_eq_left, if_true, reduceIte, Nat.reduceAdd, lk_r1, lk_r2, lk_r3, lk_rev, lk_itv, lk_itt, lk_its, wipeOk_no, wipeOk_own, wipeOk_opt, wipe_nil, wipe_cons, Option.bind_some])

local macro_rules | `(tactic| walk_at "m1") => `(tactic| simp -implicitDefEqProofs only [st_seq, st_skip, st_pss, st_brk, st_cont, st_ret, st_retN, st_ex, st_asg, st_asgT, st_iff, st_setix, wo_comp, st_for, turnQ_nx, turnQ_ct, turnQ_bk, turnQ_ret, whileQ_nx, whileQ_ct, whileQ_bk, whileQ_ret, seqK_nx, seqK_ret, seqK_bk, seqK_ct, retQ_ret, retQ_nx, retX_eq,
  wp_ok, wp_ofO, wp_raise, wp_bad, callF_wp, we_con, we_glob, we_rd, we_pk, we_fz, we_neg, we_isi, we_rev, we_sset, we_tup, we_lst, we_bin, we_cmp, we_chain, we_and, we_or, we_not, we_one, we_ife, we_ix, we_sl, wpt_no, wpt_part, we_bi, we_mt0, we_mt1, we_ofr, we_app, we_ext, we_revL, we_pop, we_popAt,
  wes_nil, wes_cons, wt_nil, wt_and, wt_or, wt_not, wt_one, wt_cmp, wt_chain, wt_tru, wl_var, wl_fld, wl_ix, wl_key, wl_nk, wa_nil, wa_cons, wa_ava, wa_aro, wa_arw, wo_fz, wo_mv, wo_lst, wo_list, wo_range, wo_call, wo_meth, wo_make, isIns_eq, isInsT_ins, rwF_rw, st_setfld, st_raise, st_tryx, goH_some, goH_none, rh_nil, rh_cons, hok_nil, hok_cons, off_none, off_some, offB_no, offB_fz, offB_opt, hs_fall, hs_ret, ifK_t, ifK_f, hs_ifr, hb_b, hx_con, hx_fld, hx_isi, tupK_s, hx_tupE, andK_t, andK_f, orK_f, orK_t, notK_b, hx_and, hx_or, hx_not, hx_one, consK_s, hxs_nil, hxs_cons, List.zip_cons_cons, List.zip_nil_left, List.reverse_cons, List.reverse_nil, List.mem_cons, List.not_mem_nil, lookA, forK_nx, forK_ct, forK_bk, forK_ret, forR_nil, Option.getD_some, Option.isNone_none, lookA, putA, wos_nil, wos_cons, wi_r1, wi_r2, wi_r3, wi_rev, wi_itv, wi_itt, wi_its, wi_lkv,
  plS1_own, plS1_ro, plS1_al, rtS_own, rtS_ro, owS_own, readP_eq, ownP_eq, writeP_eq, dim_eq, setV_eq, getP_nil, getP_ix, getP_fld, getP_key, getP_nk, setP_nil, setP_ix, setP_fld, setP_key, setP_nk, late_nil, late_cons, lateA_val, lateA_nil, lateA_cons, tree_val, tree_rw, tree_ro, mok_nil, mok_val, mok_ro, mok_rw,
  treesOf_nil, treesOf_cons, rootsOk_nil, rootsOk_val, rootsOk_rw, rootsOk_ro, okRw_val, okRw_pth, okRo_val, okRo_rw, okRo_ro, backA_nil, backA_rw, backA_ro, backA_val, outT_nil, outT_rw, outT_val, outT_ro, intD_int, boolD_bool, strD1_str, fzT_fz, lsT_ls, lisD_list, insT_ins, dkT_dk, dnT_dn, seqD_list, seqD_tuple, tupD_tuple, isLs_eq,
  setT_eq, atS, canS_no, canS_own, canS_al, canS_opt, dropAl_no, dA_own, dA_ro, dropAl_al, dropAl_opt, dimS_no, dS_own, dimS_al, dimS_opt, quiet, data_fz, data_ls, bindT, slotsOf, slotOf, startE,
  List.map_cons, List.map_nil, List.set_cons_zero, List.set_cons_succ, List.length_cons, List.length_nil, List.append_nil, List.nil_append, List.cons_append, List.getElem?_cons_zero, List.getElem?_cons_succ, List.all_cons, List.all_nil, List.replicate_succ, List.replicate_zero,
  Bool.true_and, Bool.and_true, Bool.false_and, Bool.and_false, Bool.true_or, Bool.or_true, Bool.false_or, Bool.or_false, Bool.not_true, Bool.not_false, Bool.and_self, Option.some.injEq, exists_eq_left', exists_eq_left, true_and, and_true, ite_true, ite_false, if_true, if_false, reduceCtorEq, not_true_eq_false, not_false_eq_true, Option.bind_some, Option.map_some, Option.isSome_some, Bool.false_eq_true, reduceIte, nc0, nc1, nc2, nc3, nc4, nc5, nc6, nc7, nc8, nc9, nc10, nc11, nc12, nc13, nc14, nc15, nc16, ex_if, ex_ifm, ex_map, ex_bind, Bool.not_eq_true', decide_eq_true_eq, decide_true, decide_false,
  String.reduceEq, String.reduceNe, Nat.reduceEqDiff, Int.reduceAdd, Int.reduceSub, Int.reduceMul, Int.reduceNeg, Int.reduceLT, Int.reduceLE, Int.reduceEq, Int.reduceToNat, Int.reduceNe, gt_iff_lt, ge_iff_le, Nat.reduceLT, Nat.zero_lt_succ, Nat.reduceAdd, Nat.reduceSub, Nat.reduceLeDiff, sizeLine, Nat.reducePow, Nat.zero_add, Nat.add_zero, ne_eq,
  wipeOk_no, wipeOk_own, wipeOk_opt, wipe_nil, wipe_cons, bkS_no, bkS_own, bkS_opt, back_nil, back_cons, lk_r1, lk_r2, lk_r3, lk_rev, lk_itv, lk_itt, lk_its, unlk_r1, unlk_r2, unlk_r3, unlk_rev, unlk_itv, unlk_itt, unlk_its, atI_0, atI_1, atI_2, atI_3, atI_4, atI_5,
  r_listL, r_listT, cut2_3, cut2_4, cut3_3, cut3_4, r_tupL, r_tupT, isi_i, isi_l, isi_t, r_mulI, r_modI, r_fdivI, r_addS, r_addL, r_addT, r_mulL', r_slL, r_slT, r_slS, r_ixS, r_lenS, r_strI, r_strS, r_intS, r_any, r_all, r_sum, r_min2, r_max2, r_truI, r_truB, r_truL, r_truT, r_truN, r_split, r_inS, r_notinS, r_inT1, r_niT1, r_inT2, r_niT2, r_inT3, r_niT3, r_inT4, r_niT4, r_inT5, r_niT5, r_inT6, r_niT6, or_true, true_or, or_false, false_or, or_self, r_eqSS, r_neSS, strOk_ofString, ofStr_eq, r_eqII, r_neII, r_lt, r_le, r_gt, r_ge, r_add, r_sub, r_int, r_intB, r_abs, r_lenL, r_lenT, r_ixL, r_ixT, cn_f_sort_of_MAKES, fn_f_goes_on_f_sort_of, fn_f_cost_f_goes_on, fn_f_part_f_take, fn_f_law_cost_f_is_pass, fn_f_law_top_f_law_cost, fn_f_law_top_f_is_integer, fn_f_law_top_f_part, fn_f_law_top_f_state, fn_f_law_top_f_take, fn_f_law_top_f_cost, m_f_sort_of, rw_f_sort_of, m_f_goes_on, rw_f_goes_on, m_f_cost, rw_f_cost, m_f_is_integer, rw_f_is_integer, m_f_state, rw_f_state, m_f_take, rw_f_take, m_f_part, rw_f_part, m_f_is_pass, rw_f_is_pass, m_f_law_cost, rw_f_law_cost, m_f_law_top, rw_f_law_top])

theorem r_neBB (a b : Bool) : opCmp .ne (.bool a) (.bool b) = some (!decide (a = b)) := by
  show (eqD (.bool a) (.bool b)).map _ = _
  rw [show eqD (.bool a) (.bool b) = eqD0 (.bool a) (.bool b) from rfl]
  unfold eqD0
  have s : ∀ a : Bool, SeqAt.shaped (.bool a) = true := fun a => by simp [SeqAt.shaped, PyData.canLay0, PyData.depth]
  rw [s, s]
  simp only [Bool.and_self, if_true, Option.map_some]
  unfold PyData.eqv
  cases a <;> cases b <;> rfl
theorem cmp2 {a b c d : Str} (ha : PyData.strOk a = true) (hb : PyData.strOk b = true) (hc : PyData.strOk c = true) (hd : PyData.strOk d = true) : opCmp .ne (.tuple [.str a, .str b]) (.tuple [.str c, .str d]) = some (!decide (a = c ∧ b = d)) := by
  show (eqD0 _ _).map _ = _
  unfold eqD0
  have s : ∀ a b : Str, PyData.strOk a = true → PyData.strOk b = true → SeqAt.shaped (.tuple [.str a, .str b]) = true := fun a b h k => by
    unfold SeqAt.shaped
    simp [PyData.canLay0, PyData.canLayAll0, PyData.depth, PyData.depthAll, h, k]
  rw [s _ _ ha hb, s _ _ hc hd]
  simp only [Bool.and_self, if_true, Option.map_some]
  congr 1
  congr 1
  unfold PyData.eqv PyData.eqvAll PyData.eqvAll PyData.eqvAll
  rw [eqv_str, eqv_str, Bool.and_true, Bool.decide_and]
def kd : In → Str
  | .rack _ => "rack"
  | .mv d _ _ => mvS d
  | .mk t _ _ _ => mkS t
def bd : In → Bool
  | .rack _ => false
  | .mv _ b _ => b
  | .mk _ b _ _ => b
theorem kd_ok (c : In) : PyData.strOk (kd c) = true := by
  cases c with
  | rack r => exact strOk_ofString _
  | mv d b i => cases d <;> exact strOk_ofString _
  | mk t b i y => cases t <;> exact strOk_ofString _
theorem bed_ok (b : Bool) : PyData.strOk (bedS b) = true := by cases b <;> exact strOk_ofString _
theorem kd_ix (c : In) : ixD c.enc (.int 0) = some (.str (kd c)) := by cases c <;> exact atI_0 _ _
theorem kd_rk (c : In) : kd c = ("rack" : Str) ↔ isRk c = true := by
  cases c with
  | rack r => simp [kd, isRk]
  | mv d b i => cases d <;> simp [kd, isRk, mvS, ofStr_eq]
  | mk t b i y => cases t <;> simp [kd, isRk, mkS, ofStr_eq]
theorem kd_mk (c : In) : (kd c = ("knit" : Str) ∨ kd c = ("tuck" : Str)) ↔ isMk c = true := by
  cases c with
  | rack r => simp [kd, isMk, ofStr_eq]
  | mv d b i => cases d <;> simp [kd, isMk, mvS, ofStr_eq]
  | mk t b i y => cases t <;> simp [kd, isMk, mkS, ofStr_eq]
theorem kd_sl {c : In} (h : isRk c = false) : slD c.enc none (some 2) = some (.tuple [.str (kd c), .str (bedS (bd c))]) := by
  cases c with
  | rack r => cases h
  | mv d b i => rfl
  | mk t b i y => rfl
theorem bed_inj {a b : Bool} : bedS a = bedS b ↔ a = b := by cases a <;> cases b <;> simp [bedS, ofStr_eq]
theorem so_alike {x z : In} (hx : isRk x = false) (hz : isRk z = false) : so x = so z ↔ (isMk x = isMk z ∧ (isMk z = false → kd x = kd z ∧ bedS (bd x) = bedS (bd z))) := by
  rw [bed_inj]
  cases x with
  | rack r => cases hx
  | mk t b i y => cases z with
    | rack r => cases hz
    | mk t b i y => simp [so, isMk]
    | mv d b i => cases d <;> simp [so, isMk]
  | mv d b i => cases z with
    | rack r => cases hz
    | mk t b i y => cases d <;> simp [so, isMk]
    | mv d' b' i => cases d <;> cases d' <;> simp [so, isMk, kd, bd, mvS, ofStr_eq]
/-- the needles ascend or descend -/
def mono (ns : List Int) : Prop := ns = setI ns ∨ ns = (setI ns).reverse
theorem r_inMK (x : Str) (h : PyData.strOk x = true) : opCmp .isin (.str x) (.list [.str ("knit" : Str), .str ("tuck" : Str)]) = some (decide (x = ("knit" : Str) ∨ x = ("tuck" : Str))) := by
  have := r_inSL (x := x) (xs := [("knit" : Str), ("tuck" : Str)]) h (by intro y hy; simp at hy; rcases hy with rfl | rfl <;> exact strOk_ofString _)
  simpa using this
theorem eqv_ints (a b : List Int) : PyData.eqv (.list (a.map .int)) (.list (b.map .int)) = decide (a = b) := by
  have all : ∀ a b : List Int, PyData.eqvAll (a.map .int) (b.map .int) = decide (a = b) := by
    intro a
    induction a with
    | nil => intro b; cases b <;> simp [PyData.eqvAll]
    | cons x a ih =>
      intro b
      cases b with
      | nil => simp [PyData.eqvAll]
      | cons y b =>
        simp only [List.map_cons, PyData.eqvAll, ih]
        have : PyData.eqv (.int x) (.int y) = decide (x = y) := by unfold PyData.eqv; exact Bool.beq_eq_decide_eq x y
        rw [this]
        by_cases h1 : x = y <;> by_cases h2 : a = b <;> simp [h1, h2]
  unfold PyData.eqv
  exact all a b
theorem shaped_ints (a : List Int) : SeqAt.shaped (.list (a.map .int)) = true := by
  have h1 : ∀ a : List Int, PyData.canLayAll0 (a.map .int) = true ∧ PyData.depthAll (a.map .int) = 0 := by
    intro a
    induction a with
    | nil => simp [PyData.canLayAll0, PyData.depthAll]
    | cons x a ih => simp [PyData.canLayAll0, PyData.depthAll, PyData.canLay0, PyData.depth, ih.1, ih.2]
  unfold SeqAt.shaped
  simp [PyData.canLay0, PyData.depth, (h1 a).1, (h1 a).2]
theorem r_inII (n a b : List Int) : opCmp .isin (.list (n.map .int)) (.list [.list (a.map .int), .list (b.map .int)]) = some (decide (n = a ∨ n = b)) := by
  have h2 : SeqAt.shaped (.list [.list (a.map .int), .list (b.map .int)]) = true := by
    have ha := shaped_ints a
    have hb := shaped_ints b
    unfold SeqAt.shaped at ha hb ⊢
    simp only [Bool.and_eq_true, decide_eq_true_eq] at ha hb ⊢
    refine ⟨?_, ?_⟩
    · simp only [PyData.canLay0, PyData.canLayAll0, Bool.and_eq_true, Bool.and_true] at ha hb ⊢
      exact ⟨ha.1, hb.1⟩
    · have d : ∀ a : List Int, PyData.depthAll (a.map .int) = 0 := by
        intro a
        induction a with
        | nil => simp [PyData.depthAll]
        | cons x a ih => simp [PyData.depthAll, PyData.depth, ih]
      simp [PyData.depth, PyData.depthAll, d]
  show (if SeqAt.shaped (.list (n.map .int)) && SeqAt.shaped (.list [.list (a.map .int), .list (b.map .int)]) then some ([PyData.list (a.map .int), .list (b.map .int)].any fun z => PyData.eqv z (.list (n.map .int))) else none) = _
  rw [shaped_ints, h2]
  simp only [Bool.and_self, if_true, List.any_cons, List.any_nil, Bool.or_false, eqv_ints]
  congr 1
  by_cases h1 : n = a <;> by_cases h2 : n = b <;> simp [h1, h2, eq_comm]
theorem asc_len : ∀ {l : List Int} {a b : Int}, l.Pairwise (· < ·) → (∀ x ∈ l, a ≤ x ∧ x < b) → (l.length : Int) ≤ max (b - a) 0
  | [], a, b, _, _ => by simp; omega
  | x :: r, a, b, p, h => by
    rw [List.pairwise_cons] at p
    have h1 := h x List.mem_cons_self
    have := asc_len (l := r) (a := x + 1) (b := b) p.2 fun y hy => by
      have := p.1 y hy
      have := h y (List.mem_cons_of_mem _ hy)
      omega
    rw [List.length_cons]
    omega
theorem setI_asc (ns : List Int) : (setI ns).Pairwise (· < ·) := by
  have nd : (setI ns).Nodup := (sortI_perm (uniqI ns)).nodup_iff.mpr (uniqI_nodup ns)
  have up := sortI_up (uniqI ns)
  refine (up.and nd).imp fun h => ?_
  have := h.1; have := h.2
  omega
theorem setI_mem {ns : List Int} {k : Int} : k ∈ setI ns ↔ k ∈ ns := (sortI_perm (uniqI ns)).mem_iff.trans uniqI_mem
theorem uniq_len {ns : List Int} (h : ∀ x ∈ ns, 0 ≤ x ∧ x < 60) : (uniqI ns).length < 64 := by
  have h1 := asc_len (setI_asc ns) (a := 0) (b := 60) fun x hx => h x (setI_mem.mp hx)
  have h2 : (setI ns).length = (uniqI ns).length := (sortI_perm (uniqI ns)).length_eq
  omega
theorem setI_of_asc {ns l : List Int} (h : l.Pairwise (· < ·)) (m : ∀ k, k ∈ l ↔ k ∈ ns) : l = setI ns := by
  refine sortI_of (perm_of_mem (h.imp fun h => Int.ne_of_lt h) (uniqI_nodup ns) fun k => (m k).trans uniqI_mem.symm) (h.imp fun h => Int.le_of_lt h)
theorem mono_iff (ns : List Int) : mono ns ↔ ns.Pairwise (· < ·) ∨ ns.Pairwise (fun a b => b < a) := by
  unfold mono
  constructor
  · rintro (h | h)
    · left; rw [h]; exact setI_asc ns
    · right
      rw [h, List.pairwise_reverse]
      exact setI_asc ns
  · rintro (h | h)
    · left; exact setI_of_asc h fun k => Iff.rfl
    · right
      have : ns.reverse = setI ns := setI_of_asc (List.pairwise_reverse.mpr h) fun k => List.mem_reverse
      rw [← this, List.reverse_reverse]

end Mp

end
section
set_option Elab.async false
set_option linter.all false
set_option maxRecDepth 100000
set_option maxHeartbeats 2000000
set_option autoImplicit false
open PySem PySem.Spec PyProof.Rows L2 TL
namespace Mp
local macro_rules | `(tactic| walk_at "mp") => `(tactic| repeat (first | with_reducible refine StB_go ?_ | simp -implicitDefEqProofs only [st_seq, st_skip, st_pss, st_brk, st_cont, st_ret, st_retN, st_ex, st_asg, st_asgT, st_iff, st_setix, wo_comp, st_for, turnQ_nx, turnQ_ct, turnQ_bk, turnQ_ret, whileQ_nx, whileQ_ct, whileQ_bk, whileQ_ret, seqK_nx, seqK_ret, seqK_bk, seqK_ct, retQ_ret, retQ_nx, retX_eq,
  wp_ok, wp_ofO, wp_raise, wp_bad, callF_wp, we_con, we_glob, we_rd, we_pk, we_fz, we_neg, we_isi, we_rev, we_sset, we_tup, we_lst, we_bin, we_cmp, we_chain, we_and, we_or, we_not, we_one, we_ife, we_ix, we_sl, wpt_no, wpt_part, we_bi, we_mt0, we_mt1, we_ofr, we_app, we_ext, we_revL, we_pop, we_popAt,
  wes_nil, wes_cons, wt_nil, wt_and, wt_or, wt_not, wt_one, wt_cmp, wt_chain, wt_tru, wl_var, wl_fld, wl_ix, wl_key, wl_nk, wa_nil, wa_cons, wa_ava, wa_aro, wa_arw, wo_fz, wo_mv, wo_lst, wo_list, wo_range, wo_call, wo_meth, wo_make, isIns_eq, isInsT_ins, rwF_rw, st_setfld, st_raise, st_tryx, goH_some, goH_none, rh_nil, rh_cons, hok_nil, hok_cons, off_none, off_some, offB_no, offB_fz, offB_opt, hs_fall, hs_ret, ifK_t, ifK_f, hs_ifr, hb_b, hx_con, hx_fld, hx_isi, tupK_s, hx_tupE, andK_t, andK_f, orK_f, orK_t, notK_b, hx_and, hx_or, hx_not, hx_one, consK_s, hxs_nil, hxs_cons, List.zip_cons_cons, List.zip_nil_left, List.reverse_cons, List.reverse_nil, List.mem_cons, List.not_mem_nil, lookA, forK_nx, forK_ct, forK_bk, forK_ret, forR_nil, Option.getD_some, Option.isNone_none, lookA, putA, wos_nil, wos_cons, wi_r1, wi_r2, wi_r3, wi_rev, wi_itv, wi_itt, wi_its, wi_lkv,
  plS1_own, plS1_ro, plS1_al, rtS_own, rtS_ro, owS_own, readP_eq, ownP_eq, writeP_eq, dim_eq, setV_eq, getP_nil, getP_ix, getP_fld, getP_key, getP_nk, setP_nil, setP_ix, setP_fld, setP_key, setP_nk, late_nil, late_cons, lateA_val, lateA_nil, lateA_cons, tree_val, tree_rw, tree_ro, mok_nil, mok_val, mok_ro, mok_rw,
  treesOf_nil, treesOf_cons, rootsOk_nil, rootsOk_val, rootsOk_rw, rootsOk_ro, okRw_val, okRw_pth, okRo_val, okRo_rw, okRo_ro, backA_nil, backA_rw, backA_ro, backA_val, outT_nil, outT_rw, outT_val, outT_ro, intD_int, boolD_bool, strD1_str, fzT_fz, lsT_ls, lisD_list, insT_ins, dkT_dk, dnT_dn, seqD_list, seqD_tuple, tupD_tuple, isLs_eq,
  setT_eq, atS, canS_no, canS_own, canS_al, canS_opt, dropAl_no, dA_own, dA_ro, dropAl_al, dropAl_opt, dimS_no, dS_own, dimS_al, dimS_opt, quiet, data_fz, data_ls, bindT, slotsOf, slotOf, startE,
  List.map_cons, List.map_nil, List.set_cons_zero, List.set_cons_succ, List.length_cons, List.length_nil, List.append_nil, List.nil_append, List.cons_append, List.getElem?_cons_zero, List.getElem?_cons_succ, List.all_cons, List.all_nil, List.replicate_succ, List.replicate_zero,
  Bool.true_and, Bool.and_true, Bool.false_and, Bool.and_false, Bool.true_or, Bool.or_true, Bool.false_or, Bool.or_false, Bool.not_true, Bool.not_false, Bool.and_self, Option.some.injEq, exists_eq_left', exists_eq_left, true_and, and_true, ite_true, ite_false, if_true, if_false, reduceCtorEq, not_true_eq_false, not_false_eq_true, Option.bind_some, Option.map_some, Option.isSome_some, Bool.false_eq_true, reduceIte, nc0, nc1, nc2, nc3, nc4, nc5, nc6, nc7, nc8, nc9, nc10, nc11, nc12, nc13, nc14, nc15, nc16, ex_if, ex_ifm, ex_map, ex_bind, Bool.not_eq_true', decide_eq_true_eq, decide_true, decide_false,
  String.reduceEq, String.reduceNe, Nat.reduceEqDiff, Int.reduceAdd, Int.reduceSub, Int.reduceMul, Int.reduceNeg, Int.reduceLT, Int.reduceLE, Int.reduceEq, Int.reduceToNat, Int.reduceNe, gt_iff_lt, ge_iff_le, Nat.reduceLT, Nat.zero_lt_succ, Nat.reduceAdd, Nat.reduceSub, Nat.reduceLeDiff, sizeLine, Nat.reducePow, Nat.zero_add, Nat.add_zero, ne_eq,
  wipeOk_no, wipeOk_own, wipeOk_opt, wipe_nil, wipe_cons, bkS_no, bkS_own, bkS_opt, back_nil, back_cons, lk_r1, lk_r2, lk_r3, lk_rev, lk_itv, lk_itt, lk_its, unlk_r1, unlk_r2, unlk_r3, unlk_rev, unlk_itv, unlk_itt, unlk_its, atI_0, atI_1, atI_2, atI_3, atI_4, atI_5,
  r_listL, r_listT, cut2_3, cut2_4, cut3_3, cut3_4, r_tupL, r_tupT, isi_i, isi_l, isi_t, r_mulI, r_modI, r_fdivI, r_addS, r_addL, r_addT, r_mulL', r_slL, r_slT, r_slS, r_ixS, r_lenS, r_strI, r_strS, r_intS, r_any, r_all, r_sum, r_min2, r_max2, r_truI, r_truB, r_truL, r_truT, r_truN, r_split, r_inS, r_notinS, r_inT1, r_niT1, r_inT2, r_niT2, r_inT3, r_niT3, r_inT4, r_niT4, r_inT5, r_niT5, r_inT6, r_niT6, or_true, true_or, or_false, false_or, or_self, r_eqSS, r_neSS, strOk_ofString, ofStr_eq, r_eqII, r_neII, r_lt, r_le, r_gt, r_ge, r_add, r_sub, r_int, r_intB, r_abs, r_lenL, r_lenT, r_ixL, r_ixT, cn_f_sort_of_MAKES, fn_f_goes_on_f_sort_of, fn_f_cost_f_goes_on, fn_f_part_f_take, fn_f_law_cost_f_is_pass, fn_f_law_top_f_law_cost, fn_f_law_top_f_is_integer, fn_f_law_top_f_part, fn_f_law_top_f_state, fn_f_law_top_f_take, fn_f_law_top_f_cost, m_f_sort_of, rw_f_sort_of, m_f_goes_on, rw_f_goes_on, m_f_cost, rw_f_cost, m_f_is_integer, rw_f_is_integer, m_f_state, rw_f_state, m_f_take, rw_f_take, m_f_part, rw_f_part, m_f_is_pass, rw_f_is_pass, m_f_law_cost, rw_f_law_cost, m_f_law_top, rw_f_law_top]))

local macro_rules | `(tactic| walk_at "mb") => `(tactic| simp only [bindT, setT_eq, setV_eq, atS, canS_no, canS_own, canS_al, canS_opt, dropAl_no, dA_own, dA_ro, dropAl_al, dropAl_opt, List.map_cons, List.map_nil, List.set_cons_zero, List.set_cons_succ, Option.some.injEq, exists_eq_left', exists_eq_left, if_true, reduceIte, Nat.reduceAdd, lk_r1, lk_r2, lk_r3, lk_rev, lk_itv, lk_itt, lk_its, wipeOk_no, wipeOk_own, wipeOk_opt, wipe_nil, wipe_cons, Option.bind_some])

local macro_rules | `(tactic| walk_at "m1") => `(tactic| simp -implicitDefEqProofs only [st_seq, st_skip, st_pss, st_brk, st_cont, st_ret, st_retN, st_ex, st_asg, st_asgT, st_iff, st_setix, wo_comp, st_for, turnQ_nx, turnQ_ct, turnQ_bk, turnQ_ret, whileQ_nx, whileQ_ct, whileQ_bk, whileQ_ret, seqK_nx, seqK_ret, seqK_bk, seqK_ct, retQ_ret, retQ_nx, retX_eq,
  wp_ok, wp_ofO, wp_raise, wp_bad, callF_wp, we_con, we_glob, we_rd, we_pk, we_fz, we_neg, we_isi, we_rev, we_sset, we_tup, we_lst, we_bin, we_cmp, we_chain, we_and, we_or, we_not, we_one, we_ife, we_ix, we_sl, wpt_no, wpt_part, we_bi, we_mt0, we_mt1, we_ofr, we_app, we_ext, we_revL, we_pop, we_popAt,
  wes_nil, wes_cons, wt_nil, wt_and, wt_or, wt_not, wt_one, wt_cmp, wt_chain, wt_tru, wl_var, wl_fld, wl_ix, wl_key, wl_nk, wa_nil, wa_cons, wa_ava, wa_aro, wa_arw, wo_fz, wo_mv, wo_lst, wo_list, wo_range, wo_call, wo_meth, wo_make, isIns_eq, isInsT_ins, rwF_rw, st_setfld, st_raise, st_tryx, goH_some, goH_none, rh_nil, rh_cons, hok_nil, hok_cons, off_none, off_some, offB_no, offB_fz, offB_opt, hs_fall, hs_ret, ifK_t, ifK_f, hs_ifr, hb_b, hx_con, hx_fld, hx_isi, tupK_s, hx_tupE, andK_t, andK_f, orK_f, orK_t, notK_b, hx_and, hx_or, hx_not, hx_one, consK_s, hxs_nil, hxs_cons, List.zip_cons_cons, List.zip_nil_left, List.reverse_cons, List.reverse_nil, List.mem_cons, List.not_mem_nil, lookA, forK_nx, forK_ct, forK_bk, forK_ret, forR_nil, Option.getD_some, Option.isNone_none, lookA, putA, wos_nil, wos_cons, wi_r1, wi_r2, wi_r3, wi_rev, wi_itv, wi_itt, wi_its, wi_lkv,
  plS1_own, plS1_ro, plS1_al, rtS_own, rtS_ro, owS_own, readP_eq, ownP_eq, writeP_eq, dim_eq, setV_eq, getP_nil, getP_ix, getP_fld, getP_key, getP_nk, setP_nil, setP_ix, setP_fld, setP_key, setP_nk, late_nil, late_cons, lateA_val, lateA_nil, lateA_cons, tree_val, tree_rw, tree_ro, mok_nil, mok_val, mok_ro, mok_rw,
  treesOf_nil, treesOf_cons, rootsOk_nil, rootsOk_val, rootsOk_rw, rootsOk_ro, okRw_val, okRw_pth, okRo_val, okRo_rw, okRo_ro, backA_nil, backA_rw, backA_ro, backA_val, outT_nil, outT_rw, outT_val, outT_ro, intD_int, boolD_bool, strD1_str, fzT_fz, lsT_ls, lisD_list, insT_ins, dkT_dk, dnT_dn, seqD_list, seqD_tuple, tupD_tuple, isLs_eq,
  setT_eq, atS, canS_no, canS_own, canS_al, canS_opt, dropAl_no, dA_own, dA_ro, dropAl_al, dropAl_opt, dimS_no, dS_own, dimS_al, dimS_opt, quiet, data_fz, data_ls, bindT, slotsOf, slotOf, startE,
  List.map_cons, List.map_nil, List.set_cons_zero, List.set_cons_succ, List.length_cons, List.length_nil, List.append_nil, List.nil_append, List.cons_append, List.getElem?_cons_zero, List.getElem?_cons_succ, List.all_cons, List.all_nil, List.replicate_succ, List.replicate_zero,
  Bool.true_and, Bool.and_true, Bool.false_and, Bool.and_false, Bool.true_or, Bool.or_true, Bool.false_or, Bool.or_false, Bool.not_true, Bool.not_false, Bool.and_self, Option.some.injEq, exists_eq_left', exists_eq_left, true_and, and_true, ite_true, ite_false, if_true, if_false, reduceCtorEq, not_true_eq_false, not_false_eq_true, Option.bind_some, Option.map_some, Option.isSome_some, Bool.false_eq_true, reduceIte, nc0, nc1, nc2, nc3, nc4, nc5, nc6, nc7, nc8, nc9, nc10, nc11, nc12, nc13, nc14, nc15, nc16, ex_if, ex_ifm, ex_map, ex_bind, Bool.not_eq_true', decide_eq_true_eq, decide_true, decide_false,
  String.reduceEq, String.reduceNe, Nat.reduceEqDiff, Int.reduceAdd, Int.reduceSub, Int.reduceMul, Int.reduceNeg, Int.reduceLT, Int.reduceLE, Int.reduceEq, Int.reduceToNat, Int.reduceNe, gt_iff_lt, ge_iff_le, Nat.reduceLT, Nat.zero_lt_succ, Nat.reduceAdd, Nat.reduceSub, Nat.reduceLeDiff, sizeLine, Nat.reducePow, Nat.zero_add, Nat.add_zero, ne_eq,
  wipeOk_no, wipeOk_own, wipeOk_opt, wipe_nil, wipe_cons, bkS_no, bkS_own, bkS_opt, back_nil, back_cons, lk_r1, lk_r2, lk_r3, lk_rev, lk_itv, lk_itt, lk_its, unlk_r1, unlk_r2, unlk_r3, unlk_rev, unlk_itv, unlk_itt, unlk_its, atI_0, atI_1, atI_2, atI_3, atI_4, atI_5,
  r_listL, r_listT, cut2_3, cut2_4, cut3_3, cut3_4, r_tupL, r_tupT, isi_i, isi_l, isi_t, r_mulI, r_modI, r_fdivI, r_addS, r_addL, r_addT, r_mulL', r_slL, r_slT, r_slS, r_ixS, r_lenS, r_strI, r_strS, r_intS, r_any, r_all, r_sum, r_min2, r_max2, r_truI, r_truB, r_truL, r_truT, r_truN, r_split, r_inS, r_notinS, r_inT1, r_niT1, r_inT2, r_niT2, r_inT3, r_niT3, r_inT4, r_niT4, r_inT5, r_niT5, r_inT6, r_niT6, or_true, true_or, or_false, false_or, or_self, r_eqSS, r_neSS, strOk_ofString, ofStr_eq, r_eqII, r_neII, r_lt, r_le, r_gt, r_ge, r_add, r_sub, r_int, r_intB, r_abs, r_lenL, r_lenT, r_ixL, r_ixT, cn_f_sort_of_MAKES, fn_f_goes_on_f_sort_of, fn_f_cost_f_goes_on, fn_f_part_f_take, fn_f_law_cost_f_is_pass, fn_f_law_top_f_law_cost, fn_f_law_top_f_is_integer, fn_f_law_top_f_part, fn_f_law_top_f_state, fn_f_law_top_f_take, fn_f_law_top_f_cost, m_f_sort_of, rw_f_sort_of, m_f_goes_on, rw_f_goes_on, m_f_cost, rw_f_cost, m_f_is_integer, rw_f_is_integer, m_f_state, rw_f_state, m_f_take, rw_f_take, m_f_part, rw_f_part, m_f_is_pass, rw_f_is_pass, m_f_law_cost, rw_f_law_cost, m_f_law_top, rw_f_law_top])

/-- what the law takes for a pass -/
def Good (zs : List In) : Prop := (∀ x ∈ zs, isRk x = false) ∧ (∀ x ∈ zs, ∀ z, zs[0]? = some z → so x = so z) ∧ mono (zs.map nd)
instance (ns : List Int) : Decidable (mono ns) := inferInstanceAs (Decidable (_ ∨ _))
def goodB (zs : List In) : Bool := zs.all (fun x => !isRk x) && zs.all (fun x => match zs[0]? with | some z => decide (so x = so z) | none => true) && decide (mono (zs.map nd))
theorem good_b {zs : List In} : goodB zs = true ↔ Good zs := by
  unfold goodB Good
  simp only [Bool.and_eq_true, List.all_eq_true, Bool.not_eq_true', decide_eq_true_eq, and_assoc]
  refine and_congr Iff.rfl (and_congr ⟨fun h x hx z hz => ?_, fun h x hx => ?_⟩ Iff.rfl)
  · have := h x hx
    rw [hz] at this
    exact of_decide_eq_true this
  · cases hz : zs[0]? with
    | none => rfl
    | some z => exact decide_eq_true (h x hx z hz)
def InOk (c : In) : Prop := isRk c = false → 0 ≤ nd c ∧ nd c < 60
theorem is_pass_wp {v : Fn} (hv : vf_is_pass = v) {zs : List In} (h2 : 2 ≤ zs.length) (hl : zs.length ≤ 1000) (ok : ∀ c ∈ zs, InOk c) {Q : T → List T → Prop} {X : Exn → List T → Prop}
    (q : Q (.fz (.bool (goodB zs))) [.fz (.list (zs.map In.enc))]) : (v.run [.fz (.list (zs.map In.enc))]).wp Q X := by
  refine run_wpv hv (by decide) ?_
  simp only [df_is_pass]
  walk_at "mp"
  rw [List.length_map]
  rw [if_pos (by omega)]
  refine comp_map In.enc zs (fun c => .bool (isRk c)) rfl rfl (fun _ => rfl) rfl rfl (fun c hc => ?_) (by show zs.length ≤ 16777216; omega) ?_
  · walk_at "mp"
    refine ⟨_, kd_ix c, ?_⟩
    walk_at "mp"
    have : decide (kd c = ("rack" : Str)) = isRk c := by
      cases h : isRk c with
      | true => exact decide_eq_true ((kd_rk c).mpr h)
      | false => exact decide_eq_false fun z => by rw [(kd_rk c).mp z] at h; cases h
    rw [this]
  walk_at "mp"
  have eb : (zs.map fun c => PyData.bool (isRk c)) = (zs.map isRk).map PyData.bool := by rw [List.map_map]; rfl
  rw [eb]
  refine ⟨_, boolsOf_map _, ?_⟩
  walk_at "mp"
  cases hany : (zs.map isRk).any id with
  | true =>
    walk_at "mp"
    have : goodB zs = false := by
      rw [← Bool.not_eq_true, good_b]
      rintro ⟨h, _⟩
      rw [List.any_eq_true] at hany
      obtain ⟨x, hx, hx2⟩ := hany
      obtain ⟨y, hy, rfl⟩ := List.mem_map.mp hx
      rw [id, h y hy] at hx2
      cases hx2
    rw [this] at q
    exact q
  | false =>
    have nr : ∀ x ∈ zs, isRk x = false := fun x hx => by
      rw [List.any_eq_false] at hany
      simpa using hany (isRk x) (List.mem_map.mpr ⟨x, hx, rfl⟩)
    walk_at "mp"
    obtain ⟨z0, hz0⟩ : ∃ z0, zs[0]? = some z0 := ⟨zs[0]'(by omega), List.getElem?_eq_getElem (by omega)⟩
    have hz0m := List.mem_of_getElem? hz0
    rw [List.length_map]
    refine ⟨_, rng0 (by omega) (by omega), ?_⟩
    rw [Int.toNat_natCast]
    refine for_intro encN (List.range zs.length) (fun pre e => ∃ (o1 o3 : Option PyData), (∀ x ∈ zs.take pre.length, so x = so z0) ∧ e = [.own (.fz (.list (zs.map In.enc))), opt o1, .no, opt o3, .no]) rfl ?_ ?_ ?_
    · exact ⟨none, none, by simp, rfl⟩
    · rintro pre i post e hx ⟨o1, o3, al, rfl⟩
      obtain ⟨c, h1, h3⟩ := pre_at (cs := zs) hx rfl
      have hpre := (range_at hx)
      have hcm := List.mem_of_getElem? h1
      walk_at "mp"
      refine comp_map In.enc zs (fun c => .bool (isMk c)) rfl rfl (fun _ => rfl) rfl (by cases o3 <;> rfl) (fun c hc => ?_) (by show zs.length ≤ 16777216; omega) ?_
      · walk_at "mp"
        refine ⟨_, kd_ix c, ?_⟩
        walk_at "mp"
        refine ⟨_, r_inMK _ (kd_ok c), ?_⟩
        walk_at "mp"
        have : decide (kd c = ("knit" : Str) ∨ kd c = ("tuck" : Str)) = isMk c := by
          cases h : isMk c with
          | true => exact decide_eq_true ((kd_mk c).mpr h)
          | false => exact decide_eq_false fun z => by rw [(kd_mk c).mp z] at h; cases h
        rw [this]
      walk_at "mp"
      have ab : ∀ (j : Nat) (x : In), zs[j]? = some x → atI (zs.map fun c => PyData.bool (isMk c)) (j : Int) = some (.bool (isMk x)) := fun j x h => atI_nat (by rw [List.getElem?_map, h]; rfl)
      have ab0 : atI (zs.map fun c => PyData.bool (isMk c)) 0 = some (.bool (isMk z0)) := ab 0 z0 hz0
      have in0 : atI (zs.map In.enc) 0 = some z0.enc := in_at (j := 0) hz0
      refine ⟨_, ab i c h1, _, ab0, _, r_neBB _ _, ?_⟩
      have bad : so c ≠ so z0 → Q (.fz (.bool false)) [.fz (.list (zs.map In.enc))] := fun h => by
        have : goodB zs = false := by
          rw [← Bool.not_eq_true, good_b]
          rintro ⟨_, h2, _⟩
          exact h (h2 c hcm z0 hz0)
        rw [this] at q
        exact q
      have fine : so c = so z0 → ∃ (o1' o3' : Option PyData), (∀ x ∈ zs.take (pre ++ [i]).length, so x = so z0) ∧ [Sl.own (.fz (.list (zs.map In.enc))), .own (.fz (encN i)), .no, .own (.fz (.list (zs.map fun c => PyData.bool (isMk c)))), .no] = [.own (.fz (.list (zs.map In.enc))), opt o1', .no, opt o3', .no] := fun h => by
        refine ⟨some (encN i), some (.list (zs.map fun c => PyData.bool (isMk c))), ?_, rfl⟩
        rw [List.length_append, List.length_cons, List.length_nil, Nat.zero_add, ← hpre.1, List.take_add_one, h1]
        intro x hx
        rcases List.mem_append.mp hx with hx | hx
        · exact al x (by rw [← hpre.1]; exact hx)
        · rw [List.mem_singleton.mp hx]; exact h
      have alk := so_alike (nr c hcm) (nr z0 hz0m)
      by_cases hm : isMk c = isMk z0
      case neg =>
        simp only [hm, decide_false]
        walk_at "mp"
        exact bad fun z => hm (alk.mp z).1
      simp only [hm, decide_true]
      walk_at "mp"
      refine ⟨_, ab0, ?_⟩
      walk_at "mp"
      cases hmz : isMk z0 with
      | true =>
        walk_at "mp"
        exact fine (alk.mpr ⟨hm, fun z => by rw [hmz] at z; cases z⟩)
      | false =>
        walk_at "mp"
        have nk : ¬ kd z0 = ("rack" : Str) := fun z => by
          have e1 := (kd_rk z0).mp z
          rw [nr z0 hz0m] at e1
          cases e1
        have one2 : slD c.enc none (some (1 + if (!decide (kd z0 = ("rack" : Str))) = true then 1 else 0)) = some (.tuple [.str (kd c), .str (bedS (bd c))]) := by
          rw [decide_eq_false nk]; exact kd_sl (nr c hcm)
        have one3 : slD z0.enc none (some (1 + if (!decide (kd z0 = ("rack" : Str))) = true then 1 else 0)) = some (.tuple [.str (kd z0), .str (bedS (bd z0))]) := by
          rw [decide_eq_false nk]; exact kd_sl (nr z0 hz0m)
        refine ⟨_, in_at h1, _, in0, _, kd_ix z0, _, r_neSS _ _, _, one2, _, in0, _, in0, _, kd_ix z0, _, r_neSS _ _, _, one3, _, cmp2 (kd_ok c) (bed_ok _) (kd_ok z0) (bed_ok _), ?_⟩
        by_cases hk : kd c = kd z0 ∧ bedS (bd c) = bedS (bd z0)
        · simp only [hk, and_self, decide_true]
          walk_at "mp"
          exact fine (alk.mpr ⟨hm, fun _ => hk⟩)
        · simp only [hk, decide_false]
          walk_at "mp"
          exact bad fun z => hk ((alk.mp z).2 hmz)
    · rintro e ⟨o1, o3, al, rfl⟩
      rw [List.length_range, List.take_length] at al
      walk_at "mp"
      refine comp_pure In.enc zs (fun c => some (.fz (.int (nd c)))) rfl rfl (fun _ => rfl) rfl (by cases o1 <;> cases o3 <;> rfl) (fun c hc => ?_) (by show zs.length ≤ 16777216; omega) ?_
      · walk_at "mp"
        refine ⟨_, kd_ix c, ?_⟩
        walk_at "mp"
        have nk : ¬ kd c = ("rack" : Str) := fun z => by
          have e1 := (kd_rk c).mp z
          rw [nr c hc] at e1
          cases e1
        rw [decide_eq_false nk, if_pos rfl]
        exact ⟨_, nd_ix (nr c hc), rfl⟩
      · have em : (zs.filterMap fun c => some (T.fz (.int (nd c)))) = ((zs.map nd).map PyData.int).map T.fz := by
          rw [List.map_map, List.map_map, List.filterMap_eq_map']
          rfl
        rw [em]
        refine ⟨_, data_ls _, ?_⟩
        have nds : ∀ x ∈ zs.map nd, 0 ≤ x ∧ x < 60 := fun x hx => by
          obtain ⟨y, hy, rfl⟩ := List.mem_map.mp hx
          exact ok y hy (nr y hy)
        have es : ssetD (.list ((zs.map nd).map .int)) = some (.list ((setI (zs.map nd)).map .int)) := by
          show ((intsOf ((zs.map nd).map PyData.int)).bind fun ns => if ns.length < 4000 ∧ (uniqI ns).length < 64 then some (PyData.list ((setI ns).map .int)) else none) = _
          rw [intsOf_map]
          simp only [Option.bind_some]
          rw [if_pos ⟨by rw [List.length_map]; omega, uniq_len nds⟩]
        cases o1 <;> cases o3 <;> (
          walk_at "mp"
          refine ⟨_, es, _, es, ?_⟩
          walk_at "mp"
          rw [← List.map_reverse]
          refine ⟨_, r_inII _ _ _, ?_⟩
          walk_at "mp"
          have : decide (zs.map nd = setI (zs.map nd) ∨ zs.map nd = (setI (zs.map nd)).reverse) = goodB zs := by
            by_cases h : mono (zs.map nd)
            · rw [decide_eq_true (show zs.map nd = setI (zs.map nd) ∨ zs.map nd = (setI (zs.map nd)).reverse from h)]
              symm
              rw [good_b]
              exact ⟨nr, fun x hx z hz => by rw [hz0] at hz; cases hz; exact al x hx, h⟩
            · rw [decide_eq_false (show ¬ (zs.map nd = setI (zs.map nd) ∨ zs.map nd = (setI (zs.map nd)).reverse) from h)]
              symm
              rw [← Bool.not_eq_true, good_b]
              rintro ⟨_, _, h3⟩
              exact h h3
          rw [this]
          exact q)

end Mp

end
section
set_option Elab.async false
set_option linter.all false
set_option maxRecDepth 100000
set_option maxHeartbeats 2000000
set_option autoImplicit false
open PySem PySem.Spec PyProof.Rows L2 TL
namespace Mp
local macro_rules | `(tactic| walk_at "mp") => `(tactic| repeat (first | with_reducible refine StB_go ?_ | simp -implicitDefEqProofs only [st_seq, st_skip, st_pss, st_brk, st_cont, st_ret, st_retN, st_ex, st_asg, st_asgT, st_iff, st_setix, wo_comp, st_for, turnQ_nx, turnQ_ct, turnQ_bk, turnQ_ret, whileQ_nx, whileQ_ct, whileQ_bk, whileQ_ret, seqK_nx, seqK_ret, seqK_bk, seqK_ct, retQ_ret, retQ_nx, retX_eq,
  wp_ok, wp_ofO, wp_raise, wp_bad, callF_wp, we_con, we_glob, we_rd, we_pk, we_fz, we_neg, we_isi, we_rev, we_sset, we_tup, we_lst, we_bin, we_cmp, we_chain, we_and, we_or, we_not, we_one, we_ife, we_ix, we_sl, wpt_no, wpt_part, we_bi, we_mt0, we_mt1, we_ofr, we_app, we_ext, we_revL, we_pop, we_popAt,
  wes_nil, wes_cons, wt_nil, wt_and, wt_or, wt_not, wt_one, wt_cmp, wt_chain, wt_tru, wl_var, wl_fld, wl_ix, wl_key, wl_nk, wa_nil, wa_cons, wa_ava, wa_aro, wa_arw, wo_fz, wo_mv, wo_lst, wo_list, wo_range, wo_call, wo_meth, wo_make, isIns_eq, isInsT_ins, rwF_rw, st_setfld, st_raise, st_tryx, goH_some, goH_none, rh_nil, rh_cons, hok_nil, hok_cons, off_none, off_some, offB_no, offB_fz, offB_opt, hs_fall, hs_ret, ifK_t, ifK_f, hs_ifr, hb_b, hx_con, hx_fld, hx_isi, tupK_s, hx_tupE, andK_t, andK_f, orK_f, orK_t, notK_b, hx_and, hx_or, hx_not, hx_one, consK_s, hxs_nil, hxs_cons, List.zip_cons_cons, List.zip_nil_left, List.reverse_cons, List.reverse_nil, List.mem_cons, List.not_mem_nil, lookA, forK_nx, forK_ct, forK_bk, forK_ret, forR_nil, Option.getD_some, Option.isNone_none, lookA, putA, wos_nil, wos_cons, wi_r1, wi_r2, wi_r3, wi_rev, wi_itv, wi_itt, wi_its, wi_lkv,
  plS1_own, plS1_ro, plS1_al, rtS_own, rtS_ro, owS_own, readP_eq, ownP_eq, writeP_eq, dim_eq, setV_eq, getP_nil, getP_ix, getP_fld, getP_key, getP_nk, setP_nil, setP_ix, setP_fld, setP_key, setP_nk, late_nil, late_cons, lateA_val, lateA_nil, lateA_cons, tree_val, tree_rw, tree_ro, mok_nil, mok_val, mok_ro, mok_rw,
  treesOf_nil, treesOf_cons, rootsOk_nil, rootsOk_val, rootsOk_rw, rootsOk_ro, okRw_val, okRw_pth, okRo_val, okRo_rw, okRo_ro, backA_nil, backA_rw, backA_ro, backA_val, outT_nil, outT_rw, outT_val, outT_ro, intD_int, boolD_bool, strD1_str, fzT_fz, lsT_ls, lisD_list, insT_ins, dkT_dk, dnT_dn, seqD_list, seqD_tuple, tupD_tuple, isLs_eq,
  setT_eq, atS, canS_no, canS_own, canS_al, canS_opt, dropAl_no, dA_own, dA_ro, dropAl_al, dropAl_opt, dimS_no, dS_own, dimS_al, dimS_opt, quiet, data_fz, data_ls, bindT, slotsOf, slotOf, startE,
  List.map_cons, List.map_nil, List.set_cons_zero, List.set_cons_succ, List.length_cons, List.length_nil, List.append_nil, List.nil_append, List.cons_append, List.getElem?_cons_zero, List.getElem?_cons_succ, List.all_cons, List.all_nil, List.replicate_succ, List.replicate_zero,
  Bool.true_and, Bool.and_true, Bool.false_and, Bool.and_false, Bool.true_or, Bool.or_true, Bool.false_or, Bool.or_false, Bool.not_true, Bool.not_false, Bool.and_self, Option.some.injEq, exists_eq_left', exists_eq_left, true_and, and_true, ite_true, ite_false, if_true, if_false, reduceCtorEq, not_true_eq_false, not_false_eq_true, Option.bind_some, Option.map_some, Option.isSome_some, Bool.false_eq_true, reduceIte, nc0, nc1, nc2, nc3, nc4, nc5, nc6, nc7, nc8, nc9, nc10, nc11, nc12, nc13, nc14, nc15, nc16, ex_if, ex_ifm, ex_map, ex_bind, Bool.not_eq_true', decide_eq_true_eq, decide_true, decide_false,
  String.reduceEq, String.reduceNe, Nat.reduceEqDiff, Int.reduceAdd, Int.reduceSub, Int.reduceMul, Int.reduceNeg, Int.reduceLT, Int.reduceLE, Int.reduceEq, Int.reduceToNat, Int.reduceNe, gt_iff_lt, ge_iff_le, Nat.reduceLT, Nat.zero_lt_succ, Nat.reduceAdd, Nat.reduceSub, Nat.reduceLeDiff, sizeLine, Nat.reducePow, Nat.zero_add, Nat.add_zero, ne_eq,
  wipeOk_no, wipeOk_own, wipeOk_opt, wipe_nil, wipe_cons, bkS_no, bkS_own, bkS_opt, back_nil, back_cons, lk_r1, lk_r2, lk_r3, lk_rev, lk_itv, lk_itt, lk_its, unlk_r1, unlk_r2, unlk_r3, unlk_rev, unlk_itv, unlk_itt, unlk_its, atI_0, atI_1, atI_2, atI_3, atI_4, atI_5,
  r_listL, r_listT, cut2_3, cut2_4, cut3_3, cut3_4, r_tupL, r_tupT, isi_i, isi_l, isi_t, r_mulI, r_modI, r_fdivI, r_addS, r_addL, r_addT, r_mulL', r_slL, r_slT, r_slS, r_ixS, r_lenS, r_strI, r_strS, r_intS, r_any, r_all, r_sum, r_min2, r_max2, r_truI, r_truB, r_truL, r_truT, r_truN, r_split, r_inS, r_notinS, r_inT1, r_niT1, r_inT2, r_niT2, r_inT3, r_niT3, r_inT4, r_niT4, r_inT5, r_niT5, r_inT6, r_niT6, or_true, true_or, or_false, false_or, or_self, r_eqSS, r_neSS, strOk_ofString, ofStr_eq, r_eqII, r_neII, r_lt, r_le, r_gt, r_ge, r_add, r_sub, r_int, r_intB, r_abs, r_lenL, r_lenT, r_ixL, r_ixT, cn_f_sort_of_MAKES, fn_f_goes_on_f_sort_of, fn_f_cost_f_goes_on, fn_f_part_f_take, fn_f_law_cost_f_is_pass, fn_f_law_top_f_law_cost, fn_f_law_top_f_is_integer, fn_f_law_top_f_part, fn_f_law_top_f_state, fn_f_law_top_f_take, fn_f_law_top_f_cost, m_f_sort_of, rw_f_sort_of, m_f_goes_on, rw_f_goes_on, m_f_cost, rw_f_cost, m_f_is_integer, rw_f_is_integer, m_f_state, rw_f_state, m_f_take, rw_f_take, m_f_part, rw_f_part, m_f_is_pass, rw_f_is_pass, m_f_law_cost, rw_f_law_cost, m_f_law_top, rw_f_law_top]))

local macro_rules | `(tactic| walk_at "mb") => `(tactic| simp only [bindT, setT_eq, setV_eq, atS, canS_no, canS_own, canS_al, canS_opt, dropAl_no, dA_own, dA_ro, dropAl_al, dropAl_opt, List.map_cons, List.map_nil, List.set_cons_zero, List.set_cons_succ, Option.some.injEq, exists_eq_left', exists_eq_left, if_true, reduceIte, Nat.reduceAdd, lk_r1, lk_r2, lk_r3, lk_rev, lk_itv, lk_itt, lk_its, wipeOk_no, wipeOk_own, wipeOk_opt, wipe_nil, wipe_cons, Option.bind_some])

local macro_rules | `(tactic| walk_at "m1") => `(tactic| simp -implicitDefEqProofs only [st_seq, st_skip, st_pss, st_brk, st_cont, st_ret, st_retN, st_ex, st_asg, st_asgT, st_iff, st_setix, wo_comp, st_for, turnQ_nx, turnQ_ct, turnQ_bk, turnQ_ret, whileQ_nx, whileQ_ct, whileQ_bk, whileQ_ret, seqK_nx, seqK_ret, seqK_bk, seqK_ct, retQ_ret, retQ_nx, retX_eq,
  wp_ok, wp_ofO, wp_raise, wp_bad, callF_wp, we_con, we_glob, we_rd, we_pk, we_fz, we_neg, we_isi, we_rev, we_sset, we_tup, we_lst, we_bin, we_cmp, we_chain, we_and, we_or, we_not, we_one, we_ife, we_ix, we_sl, wpt_no, wpt_part, we_bi, we_mt0, we_mt1, we_ofr, we_app, we_ext, we_revL, we_pop, we_popAt,
  wes_nil, wes_cons, wt_nil, wt_and, wt_or, wt_not, wt_one, wt_cmp, wt_chain, wt_tru, wl_var, wl_fld, wl_ix, wl_key, wl_nk, wa_nil, wa_cons, wa_ava, wa_aro, wa_arw, wo_fz, wo_mv, wo_lst, wo_list, wo_range, wo_call, wo_meth, wo_make, isIns_eq, isInsT_ins, rwF_rw, st_setfld, st_raise, st_tryx, goH_some, goH_none, rh_nil, rh_cons, hok_nil, hok_cons, off_none, off_some, offB_no, offB_fz, offB_opt, hs_fall, hs_ret, ifK_t, ifK_f, hs_ifr, hb_b, hx_con, hx_fld, hx_isi, tupK_s, hx_tupE, andK_t, andK_f, orK_f, orK_t, notK_b, hx_and, hx_or, hx_not, hx_one, consK_s, hxs_nil, hxs_cons, List.zip_cons_cons, List.zip_nil_left, List.reverse_cons, List.reverse_nil, List.mem_cons, List.not_mem_nil, lookA, forK_nx, forK_ct, forK_bk, forK_ret, forR_nil, Option.getD_some, Option.isNone_none, lookA, putA, wos_nil, wos_cons, wi_r1, wi_r2, wi_r3, wi_rev, wi_itv, wi_itt, wi_its, wi_lkv,
  plS1_own, plS1_ro, plS1_al, rtS_own, rtS_ro, owS_own, readP_eq, ownP_eq, writeP_eq, dim_eq, setV_eq, getP_nil, getP_ix, getP_fld, getP_key, getP_nk, setP_nil, setP_ix, setP_fld, setP_key, setP_nk, late_nil, late_cons, lateA_val, lateA_nil, lateA_cons, tree_val, tree_rw, tree_ro, mok_nil, mok_val, mok_ro, mok_rw,
  treesOf_nil, treesOf_cons, rootsOk_nil, rootsOk_val, rootsOk_rw, rootsOk_ro, okRw_val, okRw_pth, okRo_val, okRo_rw, okRo_ro, backA_nil, backA_rw, backA_ro, backA_val, outT_nil, outT_rw, outT_val, outT_ro, intD_int, boolD_bool, strD1_str, fzT_fz, lsT_ls, lisD_list, insT_ins, dkT_dk, dnT_dn, seqD_list, seqD_tuple, tupD_tuple, isLs_eq,
  setT_eq, atS, canS_no, canS_own, canS_al, canS_opt, dropAl_no, dA_own, dA_ro, dropAl_al, dropAl_opt, dimS_no, dS_own, dimS_al, dimS_opt, quiet, data_fz, data_ls, bindT, slotsOf, slotOf, startE,
  List.map_cons, List.map_nil, List.set_cons_zero, List.set_cons_succ, List.length_cons, List.length_nil, List.append_nil, List.nil_append, List.cons_append, List.getElem?_cons_zero, List.getElem?_cons_succ, List.all_cons, List.all_nil, List.replicate_succ, List.replicate_zero,
  Bool.true_and, Bool.and_true, Bool.false_and, Bool.and_false, Bool.true_or, Bool.or_true, Bool.false_or, Bool.or_false, Bool.not_true, Bool.not_false, Bool.and_self, Option.some.injEq, exists_eq_left', exists_eq_left, true_and, and_true, ite_true, ite_false, if_true, if_false, reduceCtorEq, not_true_eq_false, not_false_eq_true, Option.bind_some, Option.map_some, Option.isSome_some, Bool.false_eq_true, reduceIte, nc0, nc1, nc2, nc3, nc4, nc5, nc6, nc7, nc8, nc9, nc10, nc11, nc12, nc13, nc14, nc15, nc16, ex_if, ex_ifm, ex_map, ex_bind, Bool.not_eq_true', decide_eq_true_eq, decide_true, decide_false,
  String.reduceEq, String.reduceNe, Nat.reduceEqDiff, Int.reduceAdd, Int.reduceSub, Int.reduceMul, Int.reduceNeg, Int.reduceLT, Int.reduceLE, Int.reduceEq, Int.reduceToNat, Int.reduceNe, gt_iff_lt, ge_iff_le, Nat.reduceLT, Nat.zero_lt_succ, Nat.reduceAdd, Nat.reduceSub, Nat.reduceLeDiff, sizeLine, Nat.reducePow, Nat.zero_add, Nat.add_zero, ne_eq,
  wipeOk_no, wipeOk_own, wipeOk_opt, wipe_nil, wipe_cons, bkS_no, bkS_own, bkS_opt, back_nil, back_cons, lk_r1, lk_r2, lk_r3, lk_rev, lk_itv, lk_itt, lk_its, unlk_r1, unlk_r2, unlk_r3, unlk_rev, unlk_itv, unlk_itt, unlk_its, atI_0, atI_1, atI_2, atI_3, atI_4, atI_5,
  r_listL, r_listT, cut2_3, cut2_4, cut3_3, cut3_4, r_tupL, r_tupT, isi_i, isi_l, isi_t, r_mulI, r_modI, r_fdivI, r_addS, r_addL, r_addT, r_mulL', r_slL, r_slT, r_slS, r_ixS, r_lenS, r_strI, r_strS, r_intS, r_any, r_all, r_sum, r_min2, r_max2, r_truI, r_truB, r_truL, r_truT, r_truN, r_split, r_inS, r_notinS, r_inT1, r_niT1, r_inT2, r_niT2, r_inT3, r_niT3, r_inT4, r_niT4, r_inT5, r_niT5, r_inT6, r_niT6, or_true, true_or, or_false, false_or, or_self, r_eqSS, r_neSS, strOk_ofString, ofStr_eq, r_eqII, r_neII, r_lt, r_le, r_gt, r_ge, r_add, r_sub, r_int, r_intB, r_abs, r_lenL, r_lenT, r_ixL, r_ixT, cn_f_sort_of_MAKES, fn_f_goes_on_f_sort_of, fn_f_cost_f_goes_on, fn_f_part_f_take, fn_f_law_cost_f_is_pass, fn_f_law_top_f_law_cost, fn_f_law_top_f_is_integer, fn_f_law_top_f_part, fn_f_law_top_f_state, fn_f_law_top_f_take, fn_f_law_top_f_cost, m_f_sort_of, rw_f_sort_of, m_f_goes_on, rw_f_goes_on, m_f_cost, rw_f_cost, m_f_is_integer, rw_f_is_integer, m_f_state, rw_f_state, m_f_take, rw_f_take, m_f_part, rw_f_part, m_f_is_pass, rw_f_is_pass, m_f_law_cost, rw_f_law_cost, m_f_law_top, rw_f_law_top])

theorem last_asc : ∀ {l : List Int} (h : l ≠ []), l.Pairwise (· < ·) → ∀ x ∈ l, x ≤ l.getLast h
  | [a], _, _, x, hx => by rw [List.mem_singleton.mp hx]; exact Int.le_refl _
  | a :: b :: r, _, p, x, hx => by
    rw [List.pairwise_cons] at p
    rw [List.getLast_cons (by simp)]
    have ih := last_asc (l := b :: r) (by simp) p.2
    rcases List.mem_cons.mp hx with rfl | hx
    · have := p.1 _ (List.getLast_mem (show b :: r ≠ [] by simp))
      omega
    · exact ih x hx
theorem last_desc : ∀ {l : List Int} (h : l ≠ []), l.Pairwise (fun a b => b < a) → ∀ x ∈ l, l.getLast h ≤ x
  | [a], _, _, x, hx => by rw [List.mem_singleton.mp hx]; exact Int.le_refl _
  | a :: b :: r, _, p, x, hx => by
    rw [List.pairwise_cons] at p
    rw [List.getLast_cons (by simp)]
    have ih := last_desc (l := b :: r) (by simp) p.2
    rcases List.mem_cons.mp hx with rfl | hx
    · have := p.1 _ (List.getLast_mem (show b :: r ≠ [] by simp))
      omega
    · exact ih x hx
theorem gm_iff {ns : List Int} (h : ns ≠ []) (m : mono ns) (c : Int) : gm ns c = true ↔ mono (ns ++ [c]) := by
  rw [mono_iff] at m ⊢
  rw [List.pairwise_append, List.pairwise_append]
  simp only [List.pairwise_cons, List.not_mem_nil, false_implies, implies_true, List.Pairwise.nil, and_true, true_and, List.mem_cons, or_false, forall_eq]
  match ns, h, m with
  | [a], _, _ =>
    simp only [gm, decide_eq_true_eq, List.pairwise_cons, List.not_mem_nil, false_implies, implies_true, List.Pairwise.nil, and_true, true_and, List.mem_cons, or_false, forall_eq]
    omega
  | a :: b :: r, hne, m =>
    simp only [gm, Bool.or_eq_true, Bool.and_eq_true, decide_eq_true_eq]
    have mem := List.getLast_mem hne
    rcases m with m | m
    · have ab : a < b := (List.pairwise_cons.mp m).1 b (by simp)
      have la := last_asc hne m
      constructor
      · intro z
        left
        refine ⟨m, fun x hx => ?_⟩
        have := la x hx
        omega
      · rintro (⟨_, z⟩ | ⟨z, _⟩)
        · have := z _ mem
          omega
        · have := (List.pairwise_cons.mp z).1 b (by simp)
          omega
    · have ab : b < a := (List.pairwise_cons.mp m).1 b (by simp)
      have la := last_desc hne m
      constructor
      · intro z
        right
        refine ⟨m, fun x hx => ?_⟩
        have := la x hx
        omega
      · rintro (⟨z, _⟩ | ⟨_, z⟩)
        · have := (List.pairwise_cons.mp z).1 b (by simp)
          omega
        · have := z _ mem
          omega
structure Pm (xs : List In) : Prop where
  p : Ps xs
  m : mono (xs.map nd)
theorem pm_one (x : In) : Pm [x] := ⟨ps_one x, by rw [mono_iff]; left; simp⟩
theorem good_go {xs : List In} {y : In} (p : Pm xs) : goodB (xs ++ [y]) = go xs y := by
  have hne : xs.map nd ≠ [] := by simpa using p.p.ne
  have g := gm_iff hne p.m (nd y)
  obtain ⟨x0, r, rfl⟩ : ∃ x0 r, xs = x0 :: r := by
    have := p.p.ne
    cases xs with
    | nil => exact absurd rfl this
    | cons a b => exact ⟨a, b, rfl⟩
  have key : goodB (x0 :: r ++ [y]) = true ↔ go (x0 :: r) y = true := by
    rw [good_b]
    unfold go
    simp only [Bool.and_eq_true, decide_eq_true_eq, Bool.not_eq_true']
    rw [g]
    have em : (x0 :: r ++ [y]).map nd = (x0 :: r).map nd ++ [nd y] := by simp
    unfold Good
    rw [em]
    constructor
    · rintro ⟨h1, h2, h3⟩
      exact ⟨⟨h2 y (by simp) x0 rfl, h1 y (by simp)⟩, h3⟩
    · rintro ⟨⟨h1, h2⟩, h3⟩
      have hx0 : isRk x0 = false := by rw [← rk_so h1]; exact h2
      have al : ∀ x ∈ x0 :: r ++ [y], so x = so x0 := fun x hx => by
        rcases List.mem_append.mp hx with hx | hx
        · exact p.p.al x hx
        · rw [List.mem_singleton.mp hx]; exact h1
      refine ⟨fun x hx => by rw [rk_so (al x hx)]; exact hx0, fun x hx z hz => ?_, h3⟩
      cases hz
      exact al x hx
  cases h1 : goodB (x0 :: r ++ [y]) <;> cases h2 : go (x0 :: r) y <;> simp_all
theorem pm_go {xs : List In} {y : In} (p : Pm xs) (h : go xs y = true) : Pm (xs ++ [y]) := by
  refine ⟨ps_go p.p h, ?_⟩
  have hne : xs.map nd ≠ [] := by simpa using p.p.ne
  rw [List.map_append, List.map_cons, List.map_nil, ← gm_iff hne p.m]
  obtain ⟨x0, r, rfl⟩ : ∃ x0 r, xs = x0 :: r := by
    have := p.p.ne
    cases xs with
    | nil => exact absurd rfl this
    | cons a b => exact ⟨a, b, rfl⟩
  unfold go at h
  simp only [Bool.and_eq_true] at h
  exact h.2
theorem law_cost_wp {v : Fn} (hv : vf_law_cost = v) {code : List In} (hl : code.length ≤ 900) (ok : ∀ c ∈ code, InOk c) {Q : T → List T → Prop} {X : Exn → List T → Prop}
    (q : Q (.fz (.int (csts code : Int))) [.fz (.list (code.map In.enc))]) : (v.run [.fz (.list (code.map In.enc))]).wp Q X := by
  refine run_wpv hv (by decide) ?_
  simp only [df_law_cost]
  walk_at "mp"
  rw [List.length_map]
  refine ⟨_, rngA (by omega) (by omega) (by omega) (by omega), ?_⟩
  have en : ((code.length : Int) + 1 - 1).toNat = code.length := by omega
  rw [en]
  refine for_intro (encA 1) (List.range code.length) (fun pre e => ∃ (cnt start : Nat) (o3 : Option PyData), ((pre.length < code.length ∧ ∃ pre0 xs rest, code = pre0 ++ (xs ++ rest) ∧ start = pre0.length ∧ pre0.length + xs.length = pre.length + 1 ∧ Pm xs ∧ cnt + seg xs rest = csts code) ∨ (pre.length = code.length ∧ cnt = csts code)) ∧
    e = [.own (.fz (.list (code.map In.enc))), .own (.fz (.int (cnt : Int))), .own (.fz (.int (start : Int))), opt o3]) rfl ?_ ?_ ?_
  · refine ⟨0, 0, none, ?_, rfl⟩
    cases code with
    | nil => exact .inr ⟨rfl, rfl⟩
    | cons x r => exact .inl ⟨by simp, [], [x], r, rfl, rfl, rfl, pm_one x, by rw [Nat.zero_add]; rfl⟩
  · rintro pre i post e hx ⟨cnt, start, o3, inv, rfl⟩
    have hpre := (range_at hx)
    rcases inv with ⟨_, pre0, xs, rest, e1, rfl, e2, pm, e3⟩ | ⟨h, _⟩
    case inr => omega
    have len := congrArg List.length e1
    rw [List.length_append, List.length_append] at len
    simp only [encA]
    walk_at "mp"
    rw [List.length_map]
    have on : ∀ (cnt' : Nat) (pre' xs' rest' : List In), code = pre' ++ (xs' ++ rest') → pre'.length + xs'.length = i + 2 → Pm xs' → cnt' + seg xs' rest' = csts code → i + 1 < code.length → ∃ (cnt0 start : Nat) (o3 : Option PyData), (((pre ++ [i]).length < code.length ∧ ∃ pre0 xs rest, code = pre0 ++ (xs ++ rest) ∧ start = pre0.length ∧ pre0.length + xs.length = (pre ++ [i]).length + 1 ∧ Pm xs ∧ cnt0 + seg xs rest = csts code) ∨ ((pre ++ [i]).length = code.length ∧ cnt0 = csts code)) ∧
        [Sl.own (.fz (.list (code.map In.enc))), .own (.fz (.int (cnt' : Int))), .own (.fz (.int (pre'.length : Int))), .own (.fz (.int (1 + (i : Int))))] = [.own (.fz (.list (code.map In.enc))), .own (.fz (.int (cnt0 : Int))), .own (.fz (.int (start : Int))), opt o3] := fun cnt' pre' xs' rest' a1 a2 a3 a4 a5 => by
      refine ⟨cnt', pre'.length, some _, .inl ⟨?_, pre', xs', rest', a1, rfl, ?_, a3, a4⟩, rfl⟩
      · rw [List.length_append]; simp only [List.length_cons, List.length_nil]; omega
      · rw [List.length_append]; simp only [List.length_cons, List.length_nil]; omega
    by_cases hend : 1 + (i : Int) = code.length
    · rw [if_pos hend]
      walk_at "mp"
      have rn : rest = [] := by
        have : rest.length = 0 := by omega
        exact List.length_eq_zero_iff.mp this
      subst rn
      refine ⟨cnt + 1, i + 1, some (.int (1 + (i : Int))), .inr ⟨?_, e3⟩, ?_⟩
      · rw [List.length_append]; simp only [List.length_cons, List.length_nil]; omega
      · have : (1 + (i : Int)) = ((i + 1 : Nat) : Int) := by omega
        simp only [opt, this]
        rfl
    rw [if_neg hend]
    obtain ⟨y, rest, rfl⟩ : ∃ y r, rest = y :: r := by
      cases rest with
      | nil => simp only [List.length_nil] at len; omega
      | cons y r => exact ⟨y, r, rfl⟩
    have sl : cutD (code.map In.enc) (some (pre0.length : Int)) (some (1 + (i : Int) + 1)) = (xs ++ [y]).map In.enc := by
      rw [cutD_mid _ _ _ (by omega) (by omega), ← List.map_drop, ← List.map_take]
      congr 1
      rw [e1]
      have : (1 + (i : Int) + 1).toNat - (pre0.length : Int).toNat = xs.length + 1 := by omega
      rw [this, Int.toNat_natCast, List.drop_left]
      rw [show xs ++ y :: rest = (xs ++ [y]) ++ rest by simp]
      rw [List.take_left' (by simp)]
    rw [sl]
    have xl : 1 ≤ xs.length := by
      have := pm.p.ne
      cases xs with
      | nil => exact absurd rfl this
      | cons _ _ => simp
    generalize hw : vf_is_pass = w
    refine is_pass_wp hw (by rw [List.length_append]; simp only [List.length_cons, List.length_nil]; omega) (by rw [List.length_append]; simp only [List.length_cons, List.length_nil] at len ⊢; omega) (fun c hc => ok c ?_) ?_
    · rw [e1]
      rcases List.mem_append.mp hc with hc | hc
      · simp [hc]
      · rw [List.mem_singleton.mp hc]; simp
    subst hw
    rw [good_go pm]
    walk_at "mp"
    simp only [List.length_cons] at len
    by_cases hg : go xs y = true
    · simp only [hg]
      walk_at "mp"
      refine on cnt pre0 (xs ++ [y]) rest (by rw [e1]; simp) (by rw [List.length_append]; simp only [List.length_cons, List.length_nil]; omega) (pm_go pm hg) ?_ (by omega)
      rw [← e3]
      show cnt + seg (xs ++ [y]) rest = cnt + (if go xs y then seg (xs ++ [y]) rest else 1 + seg [y] rest)
      rw [if_pos hg]
    · simp only [Bool.not_eq_true] at hg
      simp only [hg]
      walk_at "mp"
      have := on (cnt + 1) (pre0 ++ xs) [y] rest (by rw [e1]; simp) (by rw [List.length_append]; simp only [List.length_cons, List.length_nil]; omega) (pm_one y) ?_ (by omega)
      · have e4 : ((pre0 ++ xs).length : Int) = 1 + (i : Int) := by rw [List.length_append]; omega
        rw [e4] at this
        exact this
      · rw [← e3]
        show cnt + 1 + seg [y] rest = cnt + (if go xs y then seg (xs ++ [y]) rest else 1 + seg [y] rest)
        rw [hg]
        simp only [Bool.false_eq_true, if_false]
        omega
  · rintro e ⟨cnt, start, o3, inv, rfl⟩
    rw [List.length_range] at inv
    rcases inv with ⟨h, _⟩ | ⟨_, rfl⟩
    · omega
    walk_at "mp"
    exact q

end Mp

end
section
set_option Elab.async false
set_option linter.all false
set_option maxRecDepth 100000
set_option maxHeartbeats 2000000
set_option autoImplicit false
open PySem PySem.Spec PyProof.Rows L2 TL
namespace Mp
local macro_rules | `(tactic| walk_at "mp") => `(tactic| repeat (first | with_reducible refine StB_go ?_ | simp -implicitDefEqProofs only [st_seq, st_skip, st_pss, st_brk, st_cont, st_ret, st_retN, st_ex, st_asg, st_asgT, st_iff, st_setix, wo_comp, st_for, turnQ_nx, turnQ_ct, turnQ_bk, turnQ_ret, whileQ_nx, whileQ_ct, whileQ_bk, whileQ_ret, seqK_nx, seqK_ret, seqK_bk, seqK_ct, retQ_ret, retQ_nx, retX_eq,
  wp_ok, wp_ofO, wp_raise, wp_bad, callF_wp, we_con, we_glob, we_rd, we_pk, we_fz, we_neg, we_isi, we_rev, we_sset, we_tup, we_lst, we_bin, we_cmp, we_chain, we_and, we_or, we_not, we_one, we_ife, we_ix, we_sl, wpt_no, wpt_part, we_bi, we_mt0, we_mt1, we_ofr, we_app, we_ext, we_revL, we_pop, we_popAt,
  wes_nil, wes_cons, wt_nil, wt_and, wt_or, wt_not, wt_one, wt_cmp, wt_chain, wt_tru, wl_var, wl_fld, wl_ix, wl_key, wl_nk, wa_nil, wa_cons, wa_ava, wa_aro, wa_arw, wo_fz, wo_mv, wo_lst, wo_list, wo_range, wo_call, wo_meth, wo_make, isIns_eq, isInsT_ins, rwF_rw, st_setfld, st_raise, st_tryx, goH_some, goH_none, rh_nil, rh_cons, hok_nil, hok_cons, off_none, off_some, offB_no, offB_fz, offB_opt, hs_fall, hs_ret, ifK_t, ifK_f, hs_ifr, hb_b, hx_con, hx_fld, hx_isi, tupK_s, hx_tupE, andK_t, andK_f, orK_f, orK_t, notK_b, hx_and, hx_or, hx_not, hx_one, consK_s, hxs_nil, hxs_cons, List.zip_cons_cons, List.zip_nil_left, List.reverse_cons, List.reverse_nil, List.mem_cons, List.not_mem_nil, lookA, forK_nx, forK_ct, forK_bk, forK_ret, forR_nil, Option.getD_some, Option.isNone_none, lookA, putA, wos_nil, wos_cons, wi_r1, wi_r2, wi_r3, wi_rev, wi_itv, wi_itt, wi_its, wi_lkv,
  plS1_own, plS1_ro, plS1_al, rtS_own, rtS_ro, owS_own, readP_eq, ownP_eq, writeP_eq, dim_eq, setV_eq, getP_nil, getP_ix, getP_fld, getP_key, getP_nk, setP_nil, setP_ix, setP_fld, setP_key, setP_nk, late_nil, late_cons, lateA_val, lateA_nil, lateA_cons, tree_val, tree_rw, tree_ro, mok_nil, mok_val, mok_ro, mok_rw,
  treesOf_nil, treesOf_cons, rootsOk_nil, rootsOk_val, rootsOk_rw, rootsOk_ro, okRw_val, okRw_pth, okRo_val, okRo_rw, okRo_ro, backA_nil, backA_rw, backA_ro, backA_val, outT_nil, outT_rw, outT_val, outT_ro, intD_int, boolD_bool, strD1_str, fzT_fz, lsT_ls, lisD_list, insT_ins, dkT_dk, dnT_dn, seqD_list, seqD_tuple, tupD_tuple, isLs_eq,
  setT_eq, atS, canS_no, canS_own, canS_al, canS_opt, dropAl_no, dA_own, dA_ro, dropAl_al, dropAl_opt, dimS_no, dS_own, dimS_al, dimS_opt, quiet, data_fz, data_ls, bindT, slotsOf, slotOf, startE,
  List.map_cons, List.map_nil, List.set_cons_zero, List.set_cons_succ, List.length_cons, List.length_nil, List.append_nil, List.nil_append, List.cons_append, List.getElem?_cons_zero, List.getElem?_cons_succ, List.all_cons, List.all_nil, List.replicate_succ, List.replicate_zero,
  Bool.true_and, Bool.and_true, Bool.false_and, Bool.and_false, Bool.true_or, Bool.or_true, Bool.false_or, Bool.or_false, Bool.not_true, Bool.not_false, Bool.and_self, Option.some.injEq, exists_eq_left', exists_eq_left, true_and, and_true, ite_true, ite_false, if_true, if_false, reduceCtorEq, not_true_eq_false, not_false_eq_true, Option.bind_some, Option.map_some, Option.isSome_some, Bool.false_eq_true, reduceIte, nc0, nc1, nc2, nc3, nc4, nc5, nc6, nc7, nc8, nc9, nc10, nc11, nc12, nc13, nc14, nc15, nc16, ex_if, ex_ifm, ex_map, ex_bind, Bool.not_eq_true', decide_eq_true_eq, decide_true, decide_false,
  String.reduceEq, String.reduceNe, Nat.reduceEqDiff, Int.reduceAdd, Int.reduceSub, Int.reduceMul, Int.reduceNeg, Int.reduceLT, Int.reduceLE, Int.reduceEq, Int.reduceToNat, Int.reduceNe, gt_iff_lt, ge_iff_le, Nat.reduceLT, Nat.zero_lt_succ, Nat.reduceAdd, Nat.reduceSub, Nat.reduceLeDiff, sizeLine, Nat.reducePow, Nat.zero_add, Nat.add_zero, ne_eq,
  wipeOk_no, wipeOk_own, wipeOk_opt, wipe_nil, wipe_cons, bkS_no, bkS_own, bkS_opt, back_nil, back_cons, lk_r1, lk_r2, lk_r3, lk_rev, lk_itv, lk_itt, lk_its, unlk_r1, unlk_r2, unlk_r3, unlk_rev, unlk_itv, unlk_itt, unlk_its, atI_0, atI_1, atI_2, atI_3, atI_4, atI_5,
  r_listL, r_listT, cut2_3, cut2_4, cut3_3, cut3_4, r_tupL, r_tupT, isi_i, isi_l, isi_t, r_mulI, r_modI, r_fdivI, r_addS, r_addL, r_addT, r_mulL', r_slL, r_slT, r_slS, r_ixS, r_lenS, r_strI, r_strS, r_intS, r_any, r_all, r_sum, r_min2, r_max2, r_truI, r_truB, r_truL, r_truT, r_truN, r_split, r_inS, r_notinS, r_inT1, r_niT1, r_inT2, r_niT2, r_inT3, r_niT3, r_inT4, r_niT4, r_inT5, r_niT5, r_inT6, r_niT6, or_true, true_or, or_false, false_or, or_self, r_eqSS, r_neSS, strOk_ofString, ofStr_eq, r_eqII, r_neII, r_lt, r_le, r_gt, r_ge, r_add, r_sub, r_int, r_intB, r_abs, r_lenL, r_lenT, r_ixL, r_ixT, cn_f_sort_of_MAKES, fn_f_goes_on_f_sort_of, fn_f_cost_f_goes_on, fn_f_part_f_take, fn_f_law_cost_f_is_pass, fn_f_law_top_f_law_cost, fn_f_law_top_f_is_integer, fn_f_law_top_f_part, fn_f_law_top_f_state, fn_f_law_top_f_take, fn_f_law_top_f_cost, m_f_sort_of, rw_f_sort_of, m_f_goes_on, rw_f_goes_on, m_f_cost, rw_f_cost, m_f_is_integer, rw_f_is_integer, m_f_state, rw_f_state, m_f_take, rw_f_take, m_f_part, rw_f_part, m_f_is_pass, rw_f_is_pass, m_f_law_cost, rw_f_law_cost, m_f_law_top, rw_f_law_top]))

local macro_rules | `(tactic| walk_at "mb") => `(tactic| simp only [bindT, setT_eq, setV_eq, atS, canS_no, canS_own, canS_al, canS_opt, dropAl_no, dA_own, dA_ro, dropAl_al, dropAl_opt, List.map_cons, List.map_nil, List.set_cons_zero, List.set_cons_succ, Option.some.injEq, exists_eq_left', exists_eq_left, if_true, reduceIte, Nat.reduceAdd, lk_r1, lk_r2, lk_r3, lk_rev, lk_itv, lk_itt, lk_its, wipeOk_no, wipeOk_own, wipeOk_opt, wipe_nil, wipe_cons, Option.bind_some])

local macro_rules | `(tactic| walk_at "m1") => `(tactic| simp -implicitDefEqProofs only [st_seq, st_skip, st_pss, st_brk, st_cont, st_ret, st_retN, st_ex, st_asg, st_asgT, st_iff, st_setix, wo_comp, st_for, turnQ_nx, turnQ_ct, turnQ_bk, turnQ_ret, whileQ_nx, whileQ_ct, whileQ_bk, whileQ_ret, seqK_nx, seqK_ret, seqK_bk, seqK_ct, retQ_ret, retQ_nx, retX_eq,
  wp_ok, wp_ofO, wp_raise, wp_bad, callF_wp, we_con, we_glob, we_rd, we_pk, we_fz, we_neg, we_isi, we_rev, we_sset, we_tup, we_lst, we_bin, we_cmp, we_chain, we_and, we_or, we_not, we_one, we_ife, we_ix, we_sl, wpt_no, wpt_part, we_bi, we_mt0, we_mt1, we_ofr, we_app, we_ext, we_revL, we_pop, we_popAt,
  wes_nil, wes_cons, wt_nil, wt_and, wt_or, wt_not, wt_one, wt_cmp, wt_chain, wt_tru, wl_var, wl_fld, wl_ix, wl_key, wl_nk, wa_nil, wa_cons, wa_ava, wa_aro, wa_arw, wo_fz, wo_mv, wo_lst, wo_list, wo_range, wo_call, wo_meth, wo_make, isIns_eq, isInsT_ins, rwF_rw, st_setfld, st_raise, st_tryx, goH_some, goH_none, rh_nil, rh_cons, hok_nil, hok_cons, off_none, off_some, offB_no, offB_fz, offB_opt, hs_fall, hs_ret, ifK_t, ifK_f, hs_ifr, hb_b, hx_con, hx_fld, hx_isi, tupK_s, hx_tupE, andK_t, andK_f, orK_f, orK_t, notK_b, hx_and, hx_or, hx_not, hx_one, consK_s, hxs_nil, hxs_cons, List.zip_cons_cons, List.zip_nil_left, List.reverse_cons, List.reverse_nil, List.mem_cons, List.not_mem_nil, lookA, forK_nx, forK_ct, forK_bk, forK_ret, forR_nil, Option.getD_some, Option.isNone_none, lookA, putA, wos_nil, wos_cons, wi_r1, wi_r2, wi_r3, wi_rev, wi_itv, wi_itt, wi_its, wi_lkv,
  plS1_own, plS1_ro, plS1_al, rtS_own, rtS_ro, owS_own, readP_eq, ownP_eq, writeP_eq, dim_eq, setV_eq, getP_nil, getP_ix, getP_fld, getP_key, getP_nk, setP_nil, setP_ix, setP_fld, setP_key, setP_nk, late_nil, late_cons, lateA_val, lateA_nil, lateA_cons, tree_val, tree_rw, tree_ro, mok_nil, mok_val, mok_ro, mok_rw,
  treesOf_nil, treesOf_cons, rootsOk_nil, rootsOk_val, rootsOk_rw, rootsOk_ro, okRw_val, okRw_pth, okRo_val, okRo_rw, okRo_ro, backA_nil, backA_rw, backA_ro, backA_val, outT_nil, outT_rw, outT_val, outT_ro, intD_int, boolD_bool, strD1_str, fzT_fz, lsT_ls, lisD_list, insT_ins, dkT_dk, dnT_dn, seqD_list, seqD_tuple, tupD_tuple, isLs_eq,
  setT_eq, atS, canS_no, canS_own, canS_al, canS_opt, dropAl_no, dA_own, dA_ro, dropAl_al, dropAl_opt, dimS_no, dS_own, dimS_al, dimS_opt, quiet, data_fz, data_ls, bindT, slotsOf, slotOf, startE,
  List.map_cons, List.map_nil, List.set_cons_zero, List.set_cons_succ, List.length_cons, List.length_nil, List.append_nil, List.nil_append, List.cons_append, List.getElem?_cons_zero, List.getElem?_cons_succ, List.all_cons, List.all_nil, List.replicate_succ, List.replicate_zero,
  Bool.true_and, Bool.and_true, Bool.false_and, Bool.and_false, Bool.true_or, Bool.or_true, Bool.false_or, Bool.or_false, Bool.not_true, Bool.not_false, Bool.and_self, Option.some.injEq, exists_eq_left', exists_eq_left, true_and, and_true, ite_true, ite_false, if_true, if_false, reduceCtorEq, not_true_eq_false, not_false_eq_true, Option.bind_some, Option.map_some, Option.isSome_some, Bool.false_eq_true, reduceIte, nc0, nc1, nc2, nc3, nc4, nc5, nc6, nc7, nc8, nc9, nc10, nc11, nc12, nc13, nc14, nc15, nc16, ex_if, ex_ifm, ex_map, ex_bind, Bool.not_eq_true', decide_eq_true_eq, decide_true, decide_false,
  String.reduceEq, String.reduceNe, Nat.reduceEqDiff, Int.reduceAdd, Int.reduceSub, Int.reduceMul, Int.reduceNeg, Int.reduceLT, Int.reduceLE, Int.reduceEq, Int.reduceToNat, Int.reduceNe, gt_iff_lt, ge_iff_le, Nat.reduceLT, Nat.zero_lt_succ, Nat.reduceAdd, Nat.reduceSub, Nat.reduceLeDiff, sizeLine, Nat.reducePow, Nat.zero_add, Nat.add_zero, ne_eq,
  wipeOk_no, wipeOk_own, wipeOk_opt, wipe_nil, wipe_cons, bkS_no, bkS_own, bkS_opt, back_nil, back_cons, lk_r1, lk_r2, lk_r3, lk_rev, lk_itv, lk_itt, lk_its, unlk_r1, unlk_r2, unlk_r3, unlk_rev, unlk_itv, unlk_itt, unlk_its, atI_0, atI_1, atI_2, atI_3, atI_4, atI_5,
  r_listL, r_listT, cut2_3, cut2_4, cut3_3, cut3_4, r_tupL, r_tupT, isi_i, isi_l, isi_t, r_mulI, r_modI, r_fdivI, r_addS, r_addL, r_addT, r_mulL', r_slL, r_slT, r_slS, r_ixS, r_lenS, r_strI, r_strS, r_intS, r_any, r_all, r_sum, r_min2, r_max2, r_truI, r_truB, r_truL, r_truT, r_truN, r_split, r_inS, r_notinS, r_inT1, r_niT1, r_inT2, r_niT2, r_inT3, r_niT3, r_inT4, r_niT4, r_inT5, r_niT5, r_inT6, r_niT6, or_true, true_or, or_false, false_or, or_self, r_eqSS, r_neSS, strOk_ofString, ofStr_eq, r_eqII, r_neII, r_lt, r_le, r_gt, r_ge, r_add, r_sub, r_int, r_intB, r_abs, r_lenL, r_lenT, r_ixL, r_ixT, cn_f_sort_of_MAKES, fn_f_goes_on_f_sort_of, fn_f_cost_f_goes_on, fn_f_part_f_take, fn_f_law_cost_f_is_pass, fn_f_law_top_f_law_cost, fn_f_law_top_f_is_integer, fn_f_law_top_f_part, fn_f_law_top_f_state, fn_f_law_top_f_take, fn_f_law_top_f_cost, m_f_sort_of, rw_f_sort_of, m_f_goes_on, rw_f_goes_on, m_f_cost, rw_f_cost, m_f_is_integer, rw_f_is_integer, m_f_state, rw_f_state, m_f_take, rw_f_take, m_f_part, rw_f_part, m_f_is_pass, rw_f_is_pass, m_f_law_cost, rw_f_law_cost, m_f_law_top, rw_f_law_top])

/-- at another needle -/
def setN : In → Int → In
  | .rack r, _ => .rack r
  | .mv d b _, i => .mv d b i
  | .mk t b _ y, i => .mk t b i y
theorem setN_ok {c : In} {i : Int} (h : 0 ≤ i ∧ i < 60) : InOk (setN c i) := by
  intro hr
  cases c with
  | rack r => cases hr
  | mv d b j => exact h
  | mk t b j y => exact h
theorem r_int0 (i : Int) : opBi .int [.int i] = some (.int i) := rfl
theorem is_int_wp {v : Fn} (hv : vf_is_integer = v) {i : Int} {Q : T → List T → Prop} {X : Exn → List T → Prop} (q : Q (.fz (.bool true)) [.fz (.int i)]) : (v.run [.fz (.int i)]).wp Q X := by
  refine run_wpv hv (by decide) ?_
  simp only [df_is_integer]
  walk_at "mp"
  exact q
theorem plain : ∀ ns : List Int, ns.length ≤ 63 → ∃ ts, vf_law_top.run [.fz (scr ns)] = .ok (.fz (.bool true)) ts := by
  intro ns hl
  suffices h : (vf_law_top.run [.fz (scr ns)]).wp (fun r _ => r = .fz (.bool true)) fun _ _ => False by
    obtain ⟨a, ts, e, rfl⟩ := FR.wp_get h
    exact ⟨ts, e⟩
  generalize hv : vf_law_top = v
  refine run_wpv hv (by decide) ?_
  simp only [df_law_top]
  walk_at "mp"
  obtain ⟨t0, g, e0⟩ := state_run ns
  rw [e0]
  simp only [FR.wp]
  walk_at "mp"
  refine take_wp g (by decide) (by decide) fun k t1 k0 k1 g => ?_
  simp only [scr]
  walk_at "mp"
  have c6 : ∃ m : Nat, (cutD (ns.map PyData.int) none (some 6)).length = m ∧ m ≤ 6 := by
    refine ⟨_, rfl, ?_⟩
    rw [cutD_to _ _ (by decide), List.length_take]
    exact Nat.min_le_left _ _
  obtain ⟨m, hm, m6⟩ := c6
  rw [hm]
  refine ⟨_, rng0 (by omega) (by omega), ?_⟩
  refine for_intro encN (List.range (k + (m : Int)).toNat) (fun pre e => ∃ (t : T) (code : List In) (o3 o5 o6 o7 : Option PyData), GSt t ∧ (∀ c ∈ code, InOk c) ∧ code.length ≤ 5 * pre.length ∧
    e = [.own (.fz (.list (ns.map .int))), .own t, .own (.ls ((code.map In.enc).map T.fz)), opt o3, .no, opt o5, opt o6, opt o7]) rfl ?_ ?_ ?_
  · exact ⟨t1, [], none, none, none, none, g, by simp, by simp, rfl⟩
  · rintro pre i post e hx ⟨t, code, o3, o5, o6, o7, g, ok, len, rfl⟩
    have hpre := (range_at hx)
    walk_at "mp"
    refine part_wp g (by decide) (by decide) (by decide) (by decide) fun c t2 dr g => ?_
    have lenT : ((code.map In.enc).map T.fz).length < 16777216 := by rw [List.length_map, List.length_map]; omega
    walk_at "mp"
    have fin : ∀ (t : T) (more : List In) (o5 o6 o7 : Option PyData), GSt t → (∀ c ∈ more, InOk c) → more.length ≤ 5 → ∃ (t0 : T) (code' : List In) (o3 o5' o6' o7' : Option PyData), GSt t0 ∧ (∀ c ∈ code', InOk c) ∧ code'.length ≤ 5 * (pre ++ [i]).length ∧
        [Sl.own (.fz (.list (ns.map .int))), .own t, .own (.ls ((code.map In.enc).map T.fz ++ (more.map In.enc).map T.fz)), .own (.fz (encN i)), .no, opt o5, opt o6, opt o7] = [.own (.fz (.list (ns.map .int))), .own t0, .own (.ls ((code'.map In.enc).map T.fz)), opt o3, .no, opt o5', opt o6', opt o7'] := fun t more o5 o6 o7 g h1 h2 => by
      refine ⟨t, code ++ more, some _, o5, o6, o7, g, fun c hc => ?_, ?_, by simp; rfl⟩
      · rcases List.mem_append.mp hc with hc | hc
        · exact ok c hc
        · exact h1 c hc
      · simp only [List.length_append, List.length_cons, List.length_nil]; omega
    cases c with
    | rack r =>
      simp only [In.enc, In.parts]
      walk_at "mp"
      refine ⟨lenT, ?_⟩
      walk_at "mp"
      exact fin t2 [.rack r] (some _) o6 o7 g (fun c hc => by rw [List.mem_singleton.mp hc]; intro z; cases z) (by simp)
    | mv d b n =>
      have dr1 : 0 ≤ n ∧ n < 7 := dr
      have nk : ¬ mvS d = ("rack" : Str) := by cases d <;> simp [mvS, ofStr_eq]
      simp only [In.enc, In.parts]
      walk_at "mp"
      simp only [nk, decide_false]
      walk_at "mp"
      refine ⟨lenT, ?_⟩
      walk_at "mp"
      simp only [nk, decide_false]
      walk_at "mp"
      refine take_wp g (by decide) (by decide) fun k2 t3 k3 k4 g => ?_
      walk_at "mp"
      by_cases q1 : k2 = 1
      · rw [if_pos q1]
        walk_at "mp"
        refine take_wp g (by decide) (by decide) fun k5 t5 k6 k7 g => ?_
        walk_at "mp"
        obtain ⟨z, hz, s, rfl, s1, s2⟩ : ∃ z, atI [PyData.int (-2), .int (-1), .int 1, .int 2] k5 = some z ∧ ∃ s : Int, z = .int s ∧ -2 ≤ s ∧ s ≤ 2 := pick4 k6 k7 ⟨-2, rfl, by decide, by decide⟩ ⟨-1, rfl, by decide, by decide⟩ ⟨1, rfl, by decide, by decide⟩ ⟨2, rfl, by decide, by decide⟩
        refine ⟨_, hz, ?_⟩
        walk_at "mp"
        refine take_wp g (by decide) (by decide) fun k8 t8 k9 k10 g => ?_
        walk_at "mp"
        refine ⟨_, rngA (by omega) (by omega) (by omega) (by omega), ?_⟩
        refine for_intro (encA 1) (List.range (1 + k8 - 1).toNat) (fun pre2 e => ∃ (more : List In) (o7 : Option PyData), (∀ c ∈ more, InOk c) ∧ more.length = 1 + pre2.length ∧
          e = [.own (.fz (.list (ns.map .int))), .own t8, .own (.ls ((code.map In.enc).map T.fz ++ (more.map In.enc).map T.fz)), .own (.fz (encN i)), .no, .own (.fz (setN (.mv d b n) (n + 10)).enc), .own (.fz (.int s)), opt o7]) rfl ?_ ?_ ?_
        · exact ⟨[setN (.mv d b n) (n + 10)], o7, fun c hc => by rw [List.mem_singleton.mp hc]; exact setN_ok (by omega), rfl, rfl⟩
        · rintro pre2 j post2 e hx2 ⟨more, o7, h1, h2, rfl⟩
          have hpre2 := (range_at hx2)
          simp only [setN, In.enc, In.parts, encA]
          walk_at "mp"
          refine ⟨.inl (by omega), ?_⟩
          walk_at "mp"
          refine ⟨by simp only [List.length_append, List.length_map]; omega, ?_⟩
          walk_at "mp"
          have sj : -8 ≤ s * (1 + (j : Int)) ∧ s * (1 + (j : Int)) ≤ 8 := by
            have j4 : j ≤ 3 := by omega
            have hs : s = -2 ∨ s = -1 ∨ s = 0 ∨ s = 1 ∨ s = 2 := by omega
            rcases hs with rfl | rfl | rfl | rfl | rfl <;> omega
          refine ⟨more ++ [setN (.mv d b n) (n + 10 + s * (1 + (j : Int)))], some _, fun c hc => ?_, by simp [h2]; omega, by simp [setN, In.enc, In.parts]; rfl⟩
          rcases List.mem_append.mp hc with hc | hc
          · exact h1 c hc
          · rw [List.mem_singleton.mp hc]; exact setN_ok (by omega)
        · rintro e ⟨more, o7, h1, h2, rfl⟩
          rw [List.length_range] at h2
          walk_at "mp"
          exact fin t8 more (some _) (some _) o7 g h1 (by omega)
      · rw [if_neg q1]
        walk_at "mp"
        exact fin t3 [setN (.mv d b n) (n + 10)] (some _) o6 o7 g (fun c hc => by rw [List.mem_singleton.mp hc]; exact setN_ok (by omega)) (by simp)
    | mk tt b n y =>
      have dr1 : 0 ≤ n ∧ n < 7 := ⟨dr.1, dr.2.1⟩
      have nk : ¬ mkS tt = ("rack" : Str) := by cases tt <;> simp [mkS, ofStr_eq]
      simp only [In.enc, In.parts]
      walk_at "mp"
      simp only [nk, decide_false]
      walk_at "mp"
      refine ⟨lenT, ?_⟩
      walk_at "mp"
      simp only [nk, decide_false]
      walk_at "mp"
      refine take_wp g (by decide) (by decide) fun k2 t3 k3 k4 g => ?_
      walk_at "mp"
      by_cases q1 : k2 = 1
      · rw [if_pos q1]
        walk_at "mp"
        refine take_wp g (by decide) (by decide) fun k5 t5 k6 k7 g => ?_
        walk_at "mp"
        obtain ⟨z, hz, s, rfl, s1, s2⟩ : ∃ z, atI [PyData.int (-2), .int (-1), .int 1, .int 2] k5 = some z ∧ ∃ s : Int, z = .int s ∧ -2 ≤ s ∧ s ≤ 2 := pick4 k6 k7 ⟨-2, rfl, by decide, by decide⟩ ⟨-1, rfl, by decide, by decide⟩ ⟨1, rfl, by decide, by decide⟩ ⟨2, rfl, by decide, by decide⟩
        refine ⟨_, hz, ?_⟩
        walk_at "mp"
        refine take_wp g (by decide) (by decide) fun k8 t8 k9 k10 g => ?_
        walk_at "mp"
        refine ⟨_, rngA (by omega) (by omega) (by omega) (by omega), ?_⟩
        refine for_intro (encA 1) (List.range (1 + k8 - 1).toNat) (fun pre2 e => ∃ (more : List In) (o7 : Option PyData), (∀ c ∈ more, InOk c) ∧ more.length = 1 + pre2.length ∧
          e = [.own (.fz (.list (ns.map .int))), .own t8, .own (.ls ((code.map In.enc).map T.fz ++ (more.map In.enc).map T.fz)), .own (.fz (encN i)), .no, .own (.fz (setN (.mk tt b n y) (n + 10)).enc), .own (.fz (.int s)), opt o7]) rfl ?_ ?_ ?_
        · exact ⟨[setN (.mk tt b n y) (n + 10)], o7, fun c hc => by rw [List.mem_singleton.mp hc]; exact setN_ok (by omega), rfl, rfl⟩
        · rintro pre2 j post2 e hx2 ⟨more, o7, h1, h2, rfl⟩
          have hpre2 := (range_at hx2)
          simp only [setN, In.enc, In.parts, encA]
          walk_at "mp"
          refine ⟨.inl (by omega), ?_⟩
          walk_at "mp"
          refine ⟨by simp only [List.length_append, List.length_map]; omega, ?_⟩
          walk_at "mp"
          have sj : -8 ≤ s * (1 + (j : Int)) ∧ s * (1 + (j : Int)) ≤ 8 := by
            have j4 : j ≤ 3 := by omega
            have hs : s = -2 ∨ s = -1 ∨ s = 0 ∨ s = 1 ∨ s = 2 := by omega
            rcases hs with rfl | rfl | rfl | rfl | rfl <;> omega
          refine ⟨more ++ [setN (.mk tt b n y) (n + 10 + s * (1 + (j : Int)))], some _, fun c hc => ?_, by simp [h2]; omega, by simp [setN, In.enc, In.parts]; rfl⟩
          rcases List.mem_append.mp hc with hc | hc
          · exact h1 c hc
          · rw [List.mem_singleton.mp hc]; exact setN_ok (by omega)
        · rintro e ⟨more, o7, h1, h2, rfl⟩
          rw [List.length_range] at h2
          walk_at "mp"
          exact fin t8 more (some _) (some _) o7 g h1 (by omega)
      · rw [if_neg q1]
        walk_at "mp"
        exact fin t3 [setN (.mk tt b n y) (n + 10)] (some _) o6 o7 g (fun c hc => by rw [List.mem_singleton.mp hc]; exact setN_ok (by omega)) (by simp)
  · rintro e ⟨t, code, o3, o5, o6, o7, g, ok, len, rfl⟩
    rw [List.length_range] at len
    walk_at "mp"
    have cl : code.length ≤ 900 := by omega
    generalize hw : vf_cost = w
    refine cost_wp hw (by omega) ?_
    subst hw
    cases o3 <;> cases o5 <;> cases o6 <;> cases o7 <;> (
      walk_at "mp"
      generalize hw : vf_is_integer = w
      refine is_int_wp hw ?_
      subst hw
      walk_at "mp"
      generalize hw : vf_law_cost = w
      refine law_cost_wp hw cl ok ?_
      subst hw
      walk_at "mp"
      simp)

end Mp

end
open PySem PySem.W PyProof.Rows
set_option maxHeartbeats 0 in
theorem PySem.Challenge.cw_heldloops_k14_costs_holds : PySem.Challenge.rw_heldloops_k14_costs.Holds := by
  w_on; o_law; k_head; (case hw => w_witness2)
  k_fill
  refine Mp.law_of (l := PySem.Challenge.rw_heldloops_k14_costs) (n := 63) (k := 10) (x := ("_law_script" : Str)) (F := Mp.vf_law_top) rfl (by decide) rfl ⟨rfl, by decide, by decide⟩ (fun w h Y => PySem.W.kIn_of Y) ?F rfl Mp.plain
  case F =>
    intro w mg fa h KX G hmg
    refine ⟨?nl, ?_⟩
    rotate_left
    refine' Mp.all_mk KX G hmg ?a_0 ?l_0 ?c_0 ?k_0 ?a_1 ?l_1 ?c_1 ?k_1 ?a_2 ?l_2 ?c_2 ?k_2 ?a_3 ?l_3 ?c_3 ?k_3 ?a_4 ?l_4 ?c_4 ?k_4 ?a_5 ?l_5 ?c_5 ?k_5 ?a_6 ?l_6 ?c_6 ?k_6 ?a_7 ?l_7 ?c_7 ?k_7 ?a_8 ?l_8 ?c_8 ?k_8 ?a_9 ?l_9 ?c_9 ?k_9 ?b_len ?b_abs ?b_int ?b_str ?b_repr ?b_sum ?b_any ?b_all ?b_min ?b_max ?b_sorted ?b_list ?b_tuple ?b_range ?b_reversed ?b_set ?b_isinstance ?b_bool ?m_0 ?p_0
    (case a_0 => k_is); (case l_0 => k_is); (case c_0 => k_is); (case k_0 => k_is); (case a_1 => k_is); (case l_1 => k_is); (case c_1 => k_is); (case k_1 => k_is); (case a_2 => k_is); (case l_2 => k_is); (case c_2 => k_is); (case k_2 => k_is); (case a_3 => k_is); (case l_3 => k_is); (case c_3 => k_is); (case k_3 => k_is); (case a_4 => k_is); (case l_4 => k_is); (case c_4 => k_is); (case k_4 => k_is); (case a_5 => k_is); (case l_5 => k_is); (case c_5 => k_is); (case k_5 => k_is); (case a_6 => k_is); (case l_6 => k_is); (case c_6 => k_is); (case k_6 => k_is); (case a_7 => k_is); (case l_7 => k_is); (case c_7 => k_is); (case k_7 => k_is); (case a_8 => k_is); (case l_8 => k_is); (case c_8 => k_is); (case k_8 => k_is); (case a_9 => k_is); (case l_9 => k_is); (case c_9 => k_is); (case k_9 => k_is); (case b_len => k_is); (case b_abs => k_is); (case b_int => k_is); (case b_str => k_is); (case b_repr => k_is); (case b_sum => k_is); (case b_any => k_is); (case b_all => k_is); (case b_min => k_is); (case b_max => k_is); (case b_sorted => k_is); (case b_list => k_is); (case b_tuple => k_is); (case b_range => k_is); (case b_reversed => k_is); (case b_set => k_is); (case b_isinstance => k_is); (case b_bool => k_is); (case m_0 => k_is); (case p_0 => k_is)
    (case nl => exact Mp.nol_of (by first | rfl | decide +kernel | k_is))
