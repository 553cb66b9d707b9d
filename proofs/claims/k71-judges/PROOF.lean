import PyProof.Rows.All
import HandS.ForMost
import HandS.Deep
import HandS.Conv
import HandS.SortInts
import HandS.IsInst
import HandS.SortKw
import KE.DataMinMax
import HandS.Style
import HandS.TupLe
import PyProof.ReprLen
import PySem.Challenge.RW_steadywires_k71_whole_judges_of_steps
set_option Elab.async false
set_option linter.all false
set_option maxRecDepth 100000
set_option maxHeartbeats 4000000
/-! DL1: plain data on an abstract heap: frozen data, own trees, slots, what a step may change. -/
namespace DL
open PySem PySem.Spec PyProof.Rows L2

/-- what a value is: frozen data, or a list, a tuple, a dict that is owned -/
inductive T where
  | fr (d : PyData)
  | lst (ts : List T)
  | tup (ts : List T)
  | dic (ks : List Key) (ts : List T)
  /-- a list that may only be read (the script) -/
  | scr (ds : List PyData)

mutual
def T.erase : T → Option PyData
  | .fr d => some d
  | .lst ts => (T.eraseAll ts).map .list
  | .tup ts => (T.eraseAll ts).map .tuple
  | .dic _ _ => none
  | .scr _ => none
def T.eraseAll : List T → Option (List PyData)
  | [] => some []
  | t :: ts => t.erase.bind fun d => (T.eraseAll ts).map (d :: ·)
end

section
variable {K : PySem.W.Frag}
mutual
/-- v is the data d; its lists stand in H by themselves -/
inductive Dp (K : PySem.W.Frag) (H : Hp) : V → PyData → Prop
  | non : Dp K H .non .none
  | bl (b : Bool) : Dp K H (.bl b) (.bool b)
  | int (i : Int) : Dp K H (.int i) (.int i)
  | str (x : Str) : Dp K H (.str x) (.str x)
  | lst {a : Addr} {xs : List V} {ds : List PyData} : H a = some (.lst xs) → DpAll K H xs ds → Dp K H (.ref a) (.list ds)
  | tup {a : Addr} {xs : List V} {ds : List PyData} : SqT K H a xs → DpAll K H xs ds → Dp K H (.ref a) (.tuple ds)
inductive DpAll (K : PySem.W.Frag) (H : Hp) : List V → List PyData → Prop
  | nil : DpAll K H [] []
  | cons {v : V} {vs : List V} {d : PyData} {ds : List PyData} : Dp K H v d → DpAll K H vs ds → DpAll K H (v :: vs) (d :: ds)
end
mutual
theorem Dp.to {H : Hp} : ∀ (d : PyData) (v : V), Dp K H v d → L2.Dp K H v d
  | .none, _, h => by cases h; exact .non
  | .bool _, _, h => by cases h; exact .bl _
  | .int _, _, h => by cases h; exact .int _
  | .str _, _, h => by cases h; exact .str _
  | .list ds, _, h => by
    cases h with
    | lst a b => exact .lst (.of a) (DpAll.to ds _ b)
  | .tuple ds, _, h => by
    cases h with
    | tup a b => exact .tup a (DpAll.to ds _ b)
  | .dict _, _, h => by cases h
theorem DpAll.to {H : Hp} : ∀ (ds : List PyData) (vs : List V), DpAll K H vs ds → L2.DpAll K H vs ds
  | [], _, h => by cases h; exact .nil
  | d :: ds, _, h => by
    cases h with
    | cons a b => exact .cons (Dp.to d _ a) (DpAll.to ds _ b)
end
mutual
theorem Dp.mono {F F' : Hp} (s : Same F F') : ∀ (d : PyData) (v : V), Dp K F v d → Dp K F' v d
  | .none, _, h => by cases h; exact .non
  | .bool _, _, h => by cases h; exact .bl _
  | .int _, _, h => by cases h; exact .int _
  | .str _, _, h => by cases h; exact .str _
  | .list ds, _, h => by
    cases h with
    | lst a b => exact .lst (s _ _ a) (DpAll.mono s ds _ b)
  | .tuple ds, _, h => by
    cases h with
    | tup a b =>
      refine .tup ?_ (DpAll.mono s ds _ b)
      rcases a with (a | ⟨o, a⟩) | a
      · exact .inl (.inl (s _ _ a))
      · exact .inl (.inr ⟨o, s _ _ a⟩)
      · exact .inr a
  | .dict _, _, h => by cases h
theorem DpAll.mono {F F' : Hp} (s : Same F F') : ∀ (ds : List PyData) (vs : List V), DpAll K F vs ds → DpAll K F' vs ds
  | [], _, h => by cases h; exact .nil
  | d :: ds, _, h => by
    cases h with
    | cons a b => exact .cons (Dp.mono s d _ a) (DpAll.mono s ds _ b)
end

theorem DpAll.length {F : Hp} : ∀ {vs : List V} {ds : List PyData}, DpAll K F vs ds → vs.length = ds.length
  | _, _, .nil => rfl
  | _, _, .cons _ h => by simp [DpAll.length h]
theorem DpAll.get {F : Hp} : ∀ {vs : List V} {ds : List PyData} {k : Nat} {d : PyData}, DpAll K F vs ds → ds[k]? = some d → ∃ v, vs[k]? = some v ∧ Dp K F v d
  | _, _, _, _, .nil, e => by simp at e
  | _, _, 0, _, .cons h _, e => by simp at e; subst e; exact ⟨_, rfl, h⟩
  | _, _, k + 1, _, .cons _ t, e => by
    obtain ⟨v, a, b⟩ := DpAll.get (k := k) t (by simpa using e)
    exact ⟨v, by simpa using a, b⟩
theorem DpAll.get' {F : Hp} : ∀ {vs : List V} {ds : List PyData} {k : Nat} {v : V}, DpAll K F vs ds → vs[k]? = some v → ∃ d, ds[k]? = some d ∧ Dp K F v d
  | _, _, _, _, .nil, e => by simp at e
  | _, _, 0, _, .cons h _, e => by simp at e; subst e; exact ⟨_, rfl, h⟩
  | _, _, k + 1, _, .cons _ t, e => by
    obtain ⟨v, a, b⟩ := DpAll.get' (k := k) t (by simpa using e)
    exact ⟨v, by simpa using a, b⟩
theorem DpAll.append {F : Hp} : ∀ {vs ws : List V} {ds es : List PyData}, DpAll K F vs ds → DpAll K F ws es → DpAll K F (vs ++ ws) (ds ++ es)
  | _, _, _, _, .nil, h => h
  | _, _, _, _, .cons a t, h => .cons a (DpAll.append t h)
theorem DpAll.take {F : Hp} : ∀ {vs : List V} {ds : List PyData} (n : Nat), DpAll K F vs ds → DpAll K F (vs.take n) (ds.take n)
  | _, _, 0, _ => .nil
  | _, _, _ + 1, .nil => .nil
  | _, _, n + 1, .cons a t => .cons a (DpAll.take n t)
theorem DpAll.drop {F : Hp} : ∀ {vs : List V} {ds : List PyData} (n : Nat), DpAll K F vs ds → DpAll K F (vs.drop n) (ds.drop n)
  | _, _, 0, h => h
  | _, _, _ + 1, .nil => .nil
  | _, _, n + 1, .cons a t => DpAll.drop n t

mutual
/-- v is t: its frozen parts stand in F, its own objects at S stand in H and not in F -/
inductive Ow (K : PySem.W.Frag) (F H : Hp) : V → T → List Addr → Prop
  | fr {v : V} {d : PyData} : Dp K F v d → Ow K F H v (.fr d) []
  | lst {l : Addr} {xs : List V} {ts : List T} {S : List Addr} : F l = none → H l = some (.lst xs) → OwAll K F H xs ts S → Ow K F H (.ref l) (.lst ts) (l :: S)
  | tup {l : Addr} {xs : List V} {ts : List T} {S : List Addr} : F l = none → H l = some (.tup xs) → OwAll K F H xs ts S → Ow K F H (.ref l) (.tup ts) (l :: S)
  | dic {l : Addr} {ks : List Key} {xs : List V} {ts : List T} {S : List Addr} : F l = none → H l = some (.dK (ks.zip xs)) → ks.length = xs.length → OwAll K F H xs ts S → Ow K F H (.ref l) (.dic ks ts) (l :: S)
  | scr {l : Addr} {xs : List V} {ds : List PyData} : SqL K F l xs → DpAll K F xs ds → Ow K F H (.ref l) (.scr ds) []
inductive OwAll (K : PySem.W.Frag) (F H : Hp) : List V → List T → List Addr → Prop
  | nil : OwAll K F H [] [] []
  | cons {v : V} {vs : List V} {t : T} {ts : List T} {S1 S2 : List Addr} : Ow K F H v t S1 → OwAll K F H vs ts S2 → OwAll K F H (v :: vs) (t :: ts) (S1 ++ S2)
end

variable {F F' H H' : Hp}
mutual
theorem Ow.mono (s : Same F F') : ∀ (t : T) (v : V) (S : List Addr), (∀ a ∈ S, F' a = none ∧ H' a = H a) → Ow K F H v t S → Ow K F' H' v t S
  | .fr d, _, _, _, h => by
    cases h with
    | fr a => exact .fr (Dp.mono s d _ a)
  | .lst ts, _, _, q, h => by
    cases h with
    | lst a b c => exact .lst (q _ List.mem_cons_self).1 ((q _ List.mem_cons_self).2.trans b) (OwAll.mono s ts _ _ (fun x m => q x (List.mem_cons_of_mem _ m)) c)
  | .tup ts, _, _, q, h => by
    cases h with
    | tup a b c => exact .tup (q _ List.mem_cons_self).1 ((q _ List.mem_cons_self).2.trans b) (OwAll.mono s ts _ _ (fun x m => q x (List.mem_cons_of_mem _ m)) c)
  | .dic ks ts, _, _, q, h => by
    cases h with
    | dic a b e c => exact .dic (q _ List.mem_cons_self).1 ((q _ List.mem_cons_self).2.trans b) e (OwAll.mono s ts _ _ (fun x m => q x (List.mem_cons_of_mem _ m)) c)
  | .scr ds, _, _, _, h => by
    cases h with
    | scr a b => exact .scr (s.seq a) (DpAll.mono s ds _ b)
theorem OwAll.mono (s : Same F F') : ∀ (ts : List T) (vs : List V) (S : List Addr), (∀ a ∈ S, F' a = none ∧ H' a = H a) → OwAll K F H vs ts S → OwAll K F' H' vs ts S
  | [], _, _, _, h => by cases h; exact .nil
  | t :: ts, _, _, q, h => by
    cases h with
    | cons a b => exact .cons (Ow.mono s t _ _ (fun x m => q x (List.mem_append_left _ m)) a) (OwAll.mono s ts _ _ (fun x m => q x (List.mem_append_right _ m)) b)
end
mutual
theorem Ow.inS : ∀ (t : T) (v : V) (S : List Addr), Ow K F H v t S → ∀ a ∈ S, F a = none ∧ ∃ o, H a = some o
  | .fr d, _, _, h, a, m => by
    cases h with
    | fr _ => cases m
  | .lst ts, _, _, h, a, m => by
    cases h with
    | lst f g c =>
      rcases List.mem_cons.mp m with rfl | m
      · exact ⟨f, _, g⟩
      · exact OwAll.inS ts _ _ c a m
  | .tup ts, _, _, h, a, m => by
    cases h with
    | tup f g c =>
      rcases List.mem_cons.mp m with rfl | m
      · exact ⟨f, _, g⟩
      · exact OwAll.inS ts _ _ c a m
  | .dic ks ts, _, _, h, a, m => by
    cases h with
    | dic f g e c =>
      rcases List.mem_cons.mp m with rfl | m
      · exact ⟨f, _, g⟩
      · exact OwAll.inS ts _ _ c a m
  | .scr ds, _, _, h, a, m => by
    cases h with
    | scr _ _ => cases m
theorem OwAll.inS : ∀ (ts : List T) (vs : List V) (S : List Addr), OwAll K F H vs ts S → ∀ a ∈ S, F a = none ∧ ∃ o, H a = some o
  | [], _, _, h, a, m => by cases h; cases m
  | t :: ts, _, _, h, a, m => by
    cases h with
    | cons p q =>
      rcases List.mem_append.mp m with m | m
      · exact Ow.inS t _ _ p a m
      · exact OwAll.inS ts _ _ q a m
end
/-- the frozen part with the objects at S put to it -/
def frzF (F H : Hp) (S : List Addr) : Hp := fun a => if a ∈ S then H a else F a
theorem frzF_in {S : List Addr} {a : Addr} (m : a ∈ S) : frzF F H S a = H a := if_pos m
theorem frzF_out {S : List Addr} {a : Addr} (m : a ∉ S) : frzF F H S a = F a := if_neg m
theorem frzF_same {S : List Addr} (h : ∀ a ∈ S, F a = none) : Same F (frzF F H S) := fun b o e => by
  by_cases m : b ∈ S
  · rw [h b m] at e; cases e
  · rw [frzF_out m]; exact e
theorem frzF_sub {S : List Addr} (s : Same F H) : Same (frzF F H S) H := fun b o e => by
  by_cases m : b ∈ S
  · rw [frzF_in m] at e; exact e
  · rw [frzF_out m] at e; exact s b o e
mutual
/-- read as data where all its objects stand in G -/
theorem Ow.data {G : Hp} (s : Same F G) : ∀ (t : T) (v : V) (S : List Addr) (d : PyData), (∀ a ∈ S, G a = H a) → Ow K F H v t S → t.erase = some d → Dp K G v d
  | .fr d, _, _, e, _, h, q => by
    cases h with
    | fr a =>
      have q' : d = e := Option.some.inj (show some d = some e from q)
      subst q'
      exact Dp.mono s d _ a
  | .lst ts, _, _, e, g, h, q => by
    cases h with
    | lst a b c =>
      have q' : (T.eraseAll ts).map PyData.list = some e := q
      obtain ⟨ds, e1, rfl⟩ := Option.map_eq_some_iff.mp q'
      exact .lst ((g _ List.mem_cons_self).trans b) (OwAll.data s ts _ _ ds (fun x m => g x (List.mem_cons_of_mem _ m)) c e1)
  | .tup ts, _, _, e, g, h, q => by
    cases h with
    | tup a b c =>
      have q' : (T.eraseAll ts).map PyData.tuple = some e := q
      obtain ⟨ds, e1, rfl⟩ := Option.map_eq_some_iff.mp q'
      exact .tup (.of ((g _ List.mem_cons_self).trans b)) (OwAll.data s ts _ _ ds (fun x m => g x (List.mem_cons_of_mem _ m)) c e1)
  | .dic ks ts, _, _, e, _, _, q => by cases (show none = some e from q)
  | .scr ds, _, _, e, _, _, q => by cases (show none = some e from q)
theorem OwAll.data {G : Hp} (s : Same F G) : ∀ (ts : List T) (vs : List V) (S : List Addr) (ds : List PyData), (∀ a ∈ S, G a = H a) → OwAll K F H vs ts S → T.eraseAll ts = some ds → DpAll K G vs ds
  | [], _, _, ds, _, h, q => by
    cases h
    have q' : ([] : List PyData) = ds := Option.some.inj (show some [] = some ds from q)
    subst q'
    exact .nil
  | t :: ts, _, _, ds, g, h, q => by
    cases h with
    | cons a b =>
      have q' : (t.erase.bind fun d => (T.eraseAll ts).map (d :: ·)) = some ds := q
      obtain ⟨d, e1, q2⟩ := Option.bind_eq_some_iff.mp q'
      obtain ⟨es, e2, rfl⟩ := Option.map_eq_some_iff.mp q2
      exact .cons (Ow.data s t _ _ d (fun x m => g x (List.mem_append_left _ m)) a e1) (OwAll.data s ts _ _ es (fun x m => g x (List.mem_append_right _ m)) b e2)
end
theorem Ow.read {t : T} {v : V} {S : List Addr} {d : PyData} (s : Same F H) (h : Ow K F H v t S) (e : t.erase = some d) : Dp K H v d := Ow.data s t v S d (fun _ _ => rfl) h e
theorem Ow.freeze {t : T} {v : V} {S : List Addr} {d : PyData} (h : Ow K F H v t S) (e : t.erase = some d) : Dp K (frzF F H S) v d :=
  Ow.data (frzF_same fun a m => (Ow.inS t v S h a m).1) t v S d (fun a m => frzF_in m) h e

theorem OwAll.length : ∀ {ts : List T} {vs : List V} {S : List Addr}, OwAll K F H vs ts S → vs.length = ts.length
  | _, _, _, .nil => rfl
  | _, _, _, .cons _ h => by simp [OwAll.length h]
theorem OwAll.append : ∀ {ts us : List T} {vs ws : List V} {S R : List Addr}, OwAll K F H vs ts S → OwAll K F H ws us R → OwAll K F H (vs ++ ws) (ts ++ us) (S ++ R)
  | _, _, _, _, _, _, .nil, h => h
  | _, _, _, _, _, _, .cons a t, h => by
    rw [List.append_assoc]
    exact .cons a (OwAll.append t h)
/-- frozen items -/
theorem OwAll.frs : ∀ {ds : List PyData} {vs : List V}, DpAll K F vs ds → OwAll K F H vs (ds.map T.fr) []
  | _, _, .nil => .nil
  | _, _, .cons a t => .cons (S1 := []) (.fr a) (OwAll.frs t)
theorem OwAll.of_frs : ∀ {ds : List PyData} {vs : List V} {S : List Addr}, OwAll K F H vs (ds.map T.fr) S → DpAll K F vs ds ∧ S = []
  | [], _, _, h => by cases h; exact ⟨.nil, rfl⟩
  | d :: ds, _, _, h => by
    cases h with
    | cons a t =>
      obtain ⟨b, rfl⟩ := OwAll.of_frs t
      cases a with
      | fr a => exact ⟨.cons a b, rfl⟩
/-- the children that are frozen -/
def frs : List T → Option (List PyData)
  | [] => some []
  | .fr d :: ts => (frs ts).map (d :: ·)
  | _ :: _ => none
theorem frs_map (ds : List PyData) : frs (ds.map T.fr) = some ds := by
  induction ds with
  | nil => rfl
  | cons d ds ih => show (frs (ds.map T.fr)).map (d :: ·) = _; rw [ih]; rfl
theorem of_frs : ∀ {ts : List T} {ds : List PyData}, frs ts = some ds → ts = ds.map T.fr
  | [], ds, h => by
    have : ([] : List PyData) = ds := Option.some.inj h
    subst this; rfl
  | .fr d :: ts, ds, h => by
    obtain ⟨es, e, rfl⟩ := Option.map_eq_some_iff.mp (show (frs ts).map (d :: ·) = some ds from h)
    rw [of_frs e]; rfl
  | .lst _ :: _, _, h => by cases h
  | .tup _ :: _, _, h => by cases h
  | .dic _ _ :: _, _, h => by cases h
  | .scr _ :: _, _, h => by cases h

/-! ### paths -/
abbrev Path := List Nat
def T.kids : T → Option (List T)
  | .fr _ => none
  | .lst ts => some ts
  | .tup ts => some ts
  | .dic _ ts => some ts
  | .scr _ => none
def T.withKids : T → List T → T
  | .fr d, _ => .fr d
  | .lst _, ts => .lst ts
  | .tup _, ts => .tup ts
  | .dic ks _, ts => .dic ks ts
  | .scr ds, _ => .scr ds
def T.get : T → Path → Option T
  | t, [] => some t
  | t, k :: p => (t.kids.bind fun ts => ts[k]?).bind fun u => u.get p
def T.put : T → Path → T → T
  | _, [], u => u
  | t, k :: p, u => match t.kids with
    | none => t
    | some ts => match ts[k]? with
      | none => t
      | some x => t.withKids (ts.set k (x.put p u))
def Kids (H : Hp) (l : Addr) (xs : List V) : Prop := H l = some (.lst xs) ∨ H l = some (.tup xs) ∨ ∃ ks : List Key, H l = some (.dK (ks.zip xs)) ∧ ks.length = xs.length
theorem zip_snd : ∀ {ks : List Key} {xs : List V}, ks.length = xs.length → (ks.zip xs).map (·.2) = xs
  | [], [], _ => rfl
  | k :: ks, x :: xs, h => by simp [zip_snd (ks := ks) (xs := xs) (by simpa using h)]
theorem zip_fst : ∀ {ks : List Key} {xs : List V}, ks.length = xs.length → (ks.zip xs).map (·.1) = ks
  | [], [], _ => rfl
  | k :: ks, x :: xs, h => by simp [zip_fst (ks := ks) (xs := xs) (by simpa using h)]
theorem Kids.inj {l : Addr} {xs ys : List V} (a : Kids H l xs) (b : Kids H l ys) : xs = ys := by
  rcases a with a | a | ⟨ks, a, ha⟩ <;> rcases b with b | b | ⟨js, b, hb⟩ <;> rw [a] at b <;> injection b with b <;> (try (cases b; rfl)) <;> (try cases b)
  have b : ks.zip xs = js.zip ys := by injection b
  rw [← zip_snd ha, ← zip_snd hb, b]
theorem Kids.same {l : Addr} {xs : List V} (s : Same H H') (a : Kids H l xs) : Kids H' l xs := by
  rcases a with a | a | ⟨ks, a, ha⟩
  · exact .inl (s _ _ a)
  · exact .inr (.inl (s _ _ a))
  · exact .inr (.inr ⟨ks, s _ _ a, ha⟩)
/-- what stands at a path from a value -/
def VAt (H : Hp) : V → Path → V → Prop
  | v, [], w => v = w
  | v, k :: p, w => ∃ l xs u, v = .ref l ∧ Kids H l xs ∧ xs[k]? = some u ∧ VAt H u p w
theorem VAt.inj : ∀ {p : Path} {v w w' : V}, VAt H v p w → VAt H v p w' → w = w'
  | [], _, _, _, a, b => a.symm.trans b
  | k :: p, _, _, _, ⟨l, xs, u, e1, e2, e3, e4⟩, ⟨l', xs', u', f1, f2, f3, f4⟩ => by
    rw [e1] at f1
    injection f1 with f1
    subst f1
    have := e2.inj f2
    subst this
    rw [e3] at f3
    injection f3 with f3
    subst f3
    exact VAt.inj e4 f4
theorem VAt.same (s : Same H H') : ∀ {p : Path} {v w : V}, VAt H v p w → VAt H' v p w
  | [], _, _, a => a
  | k :: p, _, _, ⟨l, xs, u, e1, e2, e3, e4⟩ => ⟨l, xs, u, e1, e2.same s, e3, VAt.same s e4⟩

/-- one child of several -/
theorem OwAll.at : ∀ {ts : List T} {vs : List V} {S : List Addr} {k : Nat} {t : T}, OwAll K F H vs ts S → ts[k]? = some t →
    ∃ v S1 Sa Sb, vs[k]? = some v ∧ S = Sa ++ (S1 ++ Sb) ∧ Ow K F H v t S1 ∧
      ∀ (F' H' : Hp) (w : V) (u : T) (S2 : List Addr), Same F F' → (∀ a ∈ Sa ++ Sb, F' a = none ∧ H' a = H a) → Ow K F' H' w u S2 → OwAll K F' H' (vs.set k w) (ts.set k u) (Sa ++ (S2 ++ Sb))
  | _, _, _, _, _, .nil, e => by simp at e
  | _, _, _, 0, _, .cons (S1 := S1) (S2 := S2) a b, e => by
    simp at e
    subst e
    refine ⟨_, S1, [], S2, rfl, rfl, a, fun F' H' w u S3 s q o => ?_⟩
    exact OwAll.cons (S1 := S3) (S2 := S2) o (OwAll.mono s _ _ _ (fun x m => q x (by simpa using m)) b)
  | _, _, _, k + 1, _, .cons (S1 := R) (S2 := R2) a b, e => by
    obtain ⟨v, S1, Sa, Sb, e1, e2, e3, e4⟩ := OwAll.at (k := k) b (by simpa using e)
    refine ⟨v, S1, R ++ Sa, Sb, by simpa using e1, by rw [e2, List.append_assoc], e3, fun F' H' w u S3 s q o => ?_⟩
    rw [List.append_assoc]
    exact .cons (Ow.mono s _ _ _ (fun x m => q x (by simp [m])) a) (e4 F' H' w u S3 s (fun x m => q x (by
      rcases List.mem_append.mp m with m | m
      · simp [m]
      · simp [m])) o)

/-- into a tree by a path, and back with the part replaced -/
theorem Ow.zoom : ∀ {p : Path} {t t1 : T} {v : V} {S : List Addr}, Ow K F H v t S → S.Nodup → t.get p = some t1 →
    ∃ w S1, VAt H v p w ∧ Ow K F H w t1 S1 ∧ S1.Nodup ∧ (∀ a ∈ S1, a ∈ S) ∧
      ∀ (F' H' : Hp) (t2 : T) (S2 : List Addr), Same F F' → (∀ a ∈ S, a ∉ S1 → F' a = none ∧ H' a = H a) → Ow K F' H' w t2 S2 → S2.Nodup → (∀ a ∈ S2, a ∈ S → a ∈ S1) →
        ∃ S', Ow K F' H' v (t.put p t2) S' ∧ S'.Nodup ∧ (∀ a ∈ S', a ∈ S2 ∨ (a ∈ S ∧ a ∉ S1))
  | [], t, t1, v, S, h, nd, e => by
    have e' : t = t1 := Option.some.inj e
    subst e'
    exact ⟨v, S, rfl, h, nd, fun _ m => m, fun F' H' t2 S2 _ _ o n2 _ => ⟨S2, o, n2, fun a m => .inl m⟩⟩
  | k :: p, t, t1, v, S, h, nd, e => by
    have e' : (t.kids.bind fun ts => ts[k]?).bind (fun u => u.get p) = some t1 := e
    obtain ⟨u, eu, ep⟩ := Option.bind_eq_some_iff.mp e'
    obtain ⟨ts, et, ek⟩ := Option.bind_eq_some_iff.mp eu
    -- the node
    have node : ∃ l xs S0, v = .ref l ∧ S = l :: S0 ∧ Kids H l xs ∧ OwAll K F H xs ts S0 ∧
        ∀ (F' H' : Hp) (us : List T) (S2 : List Addr), F' l = none → H' l = H l → us.length = ts.length → OwAll K F' H' xs us S2 → Ow K F' H' v (t.withKids us) (l :: S2) := by
      cases h with
      | fr a => cases et
      | scr a b => cases et
      | lst a b c =>
        cases et
        exact ⟨_, _, _, rfl, rfl, .inl b, c, fun F' H' us S2 f1 h1 _ o => .lst f1 (h1.trans b) o⟩
      | tup a b c =>
        cases et
        exact ⟨_, _, _, rfl, rfl, .inr (.inl b), c, fun F' H' us S2 f1 h1 _ o => .tup f1 (h1.trans b) o⟩
      | dic a b hz c =>
        cases et
        exact ⟨_, _, _, rfl, rfl, .inr (.inr ⟨_, b, hz⟩), c, fun F' H' us S2 f1 h1 _ o => .dic f1 (h1.trans b) hz o⟩
    obtain ⟨l, xs, S0, rfl, rfl, hk, oa, back⟩ := node
    obtain ⟨x, S1, Sa, Sb, ex, rfl, ox, put1⟩ := OwAll.at oa ek
    have nd0 := (List.nodup_cons.mp nd)
    have ndA := List.nodup_append.mp nd0.2
    have nd1 : S1.Nodup := (List.nodup_append.mp ndA.2.1).1
    obtain ⟨w, S1', hv, ow, nw, sub, upd'⟩ := Ow.zoom (p := p) ox nd1 ep
    have inS : ∀ a ∈ S1', a ∈ l :: (Sa ++ (S1 ++ Sb)) := fun a m => by simp [sub a m]
    refine ⟨w, S1', ⟨l, xs, x, rfl, hk, ex, hv⟩, ow, nw, inS, fun F' H' t2 S2 s keep o2 n2 d2 => ?_⟩
    have notin : ∀ a, a ∈ Sa ++ Sb → a ∉ S1 := fun a m m1 => by
      rcases List.mem_append.mp m with m | m
      · exact ndA.2.2 a m a (by simp [m1]) rfl
      · exact (List.nodup_append.mp ndA.2.1).2.2 a m1 a m rfl
    have lnot : l ∉ S1 := fun m => nd0.1 (by simp [m])
    obtain ⟨S', o', n', c'⟩ := upd' F' H' t2 S2 s (fun a m m1 => keep a (by simp [m]) m1) o2 n2 (fun a m m1 => d2 a m (by simp [m1]))
    have oa' := put1 F' H' x (u.put p t2) S' s (fun a m => keep a (by
      rcases List.mem_append.mp m with m | m
      · simp [m]
      · simp [m]) fun m1 => notin a m (sub a m1)) o'
    have exs : xs.set k x = xs := by
      refine List.ext_getElem? fun j => ?_
      by_cases hj : k = j
      · subst hj
        rw [List.getElem?_set_self (List.getElem?_eq_some_iff.mp ex).1, ex]
      · rw [List.getElem?_set_ne hj]
    rw [exs] at oa'
    have fin := back F' H' (ts.set k (u.put p t2)) _ (keep l (by simp) fun m => lnot (sub l m)).1 (keep l (by simp) fun m => lnot (sub l m)).2 (by simp) oa'
    have ePut : t.put (k :: p) t2 = t.withKids (ts.set k (u.put p t2)) := by
      show (match t.kids with | none => t | some ts => match ts[k]? with | none => t | some x => t.withKids (ts.set k (x.put p t2))) = _
      rw [et]
      show (match ts[k]? with | none => t | some x => t.withKids (ts.set k (x.put p t2))) = _
      rw [ek]
    rw [ePut]
    -- where the new part's objects come from
    have src : ∀ a ∈ S', a ∈ S2 ∨ (a ∈ S1 ∧ a ∉ S1') := c'
    have offA : ∀ a ∈ Sa ++ Sb, a ∉ S' := fun a m m' => by
      rcases src a m' with q | q
      · have hm : a ∈ l :: (Sa ++ (S1 ++ Sb)) := by
          rcases List.mem_append.mp m with m | m
          · simp [m]
          · simp [m]
        exact notin a m (sub a (d2 a q hm))
      · exact notin a m q.1
    have offl : l ∉ S' := fun m' => by
      rcases src l m' with q | q
      · exact lnot (sub l (d2 l q (by simp)))
      · exact lnot q.1
    refine ⟨_, fin, List.nodup_cons.mpr ⟨fun m => ?_, List.nodup_append.mpr ⟨ndA.1, List.nodup_append.mpr ⟨n', (List.nodup_append.mp ndA.2.1).2.1, fun a ma b mb e => ?_⟩, fun a ma b mb e => ?_⟩⟩, fun a m => ?_⟩
    · rcases List.mem_append.mp m with m | m
      · exact nd0.1 (by simp [m])
      · rcases List.mem_append.mp m with m | m
        · exact offl m
        · exact nd0.1 (by simp [m])
    · subst e
      exact offA a (by simp [mb]) ma
    · subst e
      rcases List.mem_append.mp mb with mb | mb
      · exact offA a (by simp [ma]) mb
      · exact ndA.2.2 a ma a (by simp [mb]) rfl
    · rcases List.mem_cons.mp m with rfl | m
      · exact .inr ⟨by simp, fun q => lnot (sub _ q)⟩
      · rcases List.mem_append.mp m with m | m
        · exact .inr ⟨by simp [m], fun q => notin a (by simp [m]) (sub _ q)⟩
        · rcases List.mem_append.mp m with m | m
          · rcases src a m with q | q
            · exact .inl q
            · exact .inr ⟨by simp [q.1], q.2⟩
          · exact .inr ⟨by simp [m], fun q => notin a (by simp [m]) (sub _ q)⟩
end
end DL

/-! DL2: slots, the state relation, expressions. -/
namespace DL
open PySem PySem.Spec PyProof.Rows L2

inductive Sl where
  | non
  | own (t : T)
  | pin (t : T)
  /-- not to be touched for now -/
  | hid
inductive R where
  | val (t : T)
  | bor (i : Nat) (p : Path)
abbrev MS := List Sl
abbrev M (α : Type) := MS → Option (α × MS)

def Sl.tree? : Sl → Option T
  | .non => none
  | .hid => none
  | .own t => some t
  | .pin t => some t
def Sl.with : Sl → T → Sl
  | .non, _ => .non
  | .hid, _ => .hid
  | .own _, t => .own t
  | .pin _, t => .pin t

/-- what stays through a body: the pinned slots' values, the number of slots -/
structure Gh where
  pin : Nat → Option V
  n : Nat
instance : CoeFun Gh (fun _ => Nat → Option V) := ⟨Gh.pin⟩
def SlotOk (K : PySem.W.Frag) (P : Gh) (F H : Hp) (i : Nat) (s : Sl) (v? : Option (Option V)) (S : List Addr) : Prop :=
  match s with
  | .non => S = []
  | .hid => S = [] ∧ ∃ v, v? = some (some v) ∧ P i = some v
  | .own t => ∃ v, v? = some (some v) ∧ Ow K F H v t S
  | .pin t => ∃ v, v? = some (some v) ∧ P i = some v ∧ Ow K F H v t S

structure Good (K : PySem.W.Frag) (P : Gh) (F : Hp) (A : Nat → List Addr) (ρ : MS) (σ : L2.St) (H : Hp) : Prop where
  same : Same F H
  len : ρ.length = σ.length
  slot : ∀ i s, ρ[i]? = some s → SlotOk K P F H i s σ[i]? (A i)
  out : ∀ i, ρ.length ≤ i → A i = []
  nd : ∀ i, (A i).Nodup
  dj : ∀ i j a, a ∈ A i → a ∈ A j → i = j
  ln : σ.length = P.n

/-- not there, or owned by a slot: what a step may lay or change -/
def Nw (A : Nat → List Addr) (H : Hp) (a : Addr) : Prop := H a = none ∨ ∃ i, a ∈ A i
theorem not_nw {A : Nat → List Addr} {H : Hp} {a : Addr} {o : HO} (e : H a = some o) (n : ∀ i, a ∉ A i) : ¬ Nw A H a := fun h => by
  rcases h with h | ⟨i, h⟩
  · rw [e] at h; cases h
  · exact n i h
theorem of_not_nw {A : Nat → List Addr} {H : Hp} {a : Addr} (n : ¬ Nw A H a) : (∃ o, H a = some o) ∧ ∀ i, a ∉ A i := by
  refine ⟨?_, fun i m => n (.inr ⟨i, m⟩)⟩
  cases e : H a with
  | none => exact absurd (.inl e) n
  | some o => exact ⟨o, rfl⟩
structure Ext (q : Bool) (F : Hp) (A : Nat → List Addr) (H F' : Hp) (A' : Nat → List Addr) (H' : Hp) : Prop where
  sF : Same F F'
  frm : ∀ a, ¬ Nw A H a → H' a = H a ∧ F' a = F a ∧ ∀ i, a ∉ A' i
  qt : q = true → Same H H'
theorem Ext.nw {q : Bool} {F H F' H' : Hp} {A A' : Nat → List Addr} (x : Ext q F A H F' A' H') {a : Addr} (n : ¬ Nw A H a) : ¬ Nw A' H' a := by
  obtain ⟨⟨o, e⟩, _⟩ := of_not_nw n
  obtain ⟨h, _, k⟩ := x.frm a n
  exact not_nw (h.trans e) k
theorem Ext.nw' {q : Bool} {F H F' H' : Hp} {A A' : Nat → List Addr} (x : Ext q F A H F' A' H') {a : Addr} (n : Nw A' H' a) : Nw A H a := Classical.byContradiction fun z => x.nw z n

section
variable {K : PySem.W.Frag} {P : Gh} {F F' F1 F2 H H' H1 H2 : Hp} {A A' A1 A2 : Nat → List Addr} {ρ ρ' : MS} {σ : L2.St} {q q' : Bool}
theorem Ext.refl : Ext q F A H F A H := ⟨Same.refl F, fun a n => ⟨rfl, rfl, (of_not_nw n).2⟩, fun _ => Same.refl H⟩
theorem Ext.trans (a : Ext q F A H F1 A1 H1) (b : Ext q' F1 A1 H1 F2 A2 H2) : Ext (q && q') F A H F2 A2 H2 :=
  ⟨a.sF.trans b.sF, fun x n => by
    obtain ⟨h1, f1, n1⟩ := a.frm x n
    obtain ⟨h2, f2, n2⟩ := b.frm x (a.nw n)
    exact ⟨h2.trans h1, f2.trans f1, n2⟩, fun hq => by
    rw [Bool.and_eq_true] at hq
    exact (a.qt hq.1).trans (b.qt hq.2)⟩
theorem Ext.le (a : Ext q F A H F1 A1 H1) (h : q' = true → q = true) : Ext q' F A H F1 A1 H1 := ⟨a.sF, a.frm, fun e => a.qt (h e)⟩
theorem Good.noF (G : Good K P F A ρ σ H) : ∀ i a, a ∈ A i → F a = none ∧ ∃ o, H a = some o := fun i a m => by
  cases e : ρ[i]? with
  | none =>
    rw [G.out i (List.getElem?_eq_none_iff.mp e)] at m
    cases m
  | some s =>
    have h := G.slot i s e
    cases s with
    | non =>
      have h : A i = [] := h
      rw [h] at m; cases m
    | hid =>
      rw [h.1] at m; cases m
    | own t =>
      obtain ⟨v, _, o⟩ := h
      exact Ow.inS t v _ o a m
    | pin t =>
      obtain ⟨v, _, _, o⟩ := h
      exact Ow.inS t v _ o a m

/-- only new objects -/
structure Grow (F H F' H' : Hp) : Prop where
  sF : Same F F'
  sH : Same H H'
  sub : Same F' H'
  old : ∀ a o, H a = some o → F' a = F a
theorem Grow.refl (s : Same F H) : Grow F H F H := ⟨Same.refl F, Same.refl H, s, fun _ _ _ => rfl⟩
theorem Grow.trans (a : Grow F H F1 H1) (b : Grow F1 H1 F2 H2) : Grow F H F2 H2 :=
  ⟨a.sF.trans b.sF, a.sH.trans b.sH, b.sub, fun x o e => (b.old x o (a.sH x o e)).trans (a.old x o e)⟩
/-- a new object, not frozen -/
theorem Grow.new {p : Addr} {o : HO} (s : Same F H) (hp : H p = none) : Grow F H F (upd H p o) :=
  ⟨Same.refl F, fun b u e => by rw [upd_ne (ne_of_none e hp)]; exact e, fun b u e => by rw [upd_ne (ne_of_none (s b u e) hp)]; exact s b u e, fun _ _ _ => rfl⟩
/-- a new object, frozen -/
theorem Grow.newF {p : Addr} {o : HO} (s : Same F H) (hp : H p = none) : Grow F H (upd F p o) (upd H p o) := by
  have hf : F p = none := s.free hp
  refine ⟨fun b u e => by rw [upd_ne (ne_of_none e hf)]; exact e, fun b u e => by rw [upd_ne (ne_of_none e hp)]; exact e, fun b u e => ?_, fun b u e => by rw [upd_ne (ne_of_none e hp)]⟩
  by_cases hb : b = p
  · subst hb; rw [upd_same] at e ⊢; exact e
  · rw [upd_ne hb] at e ⊢; exact s b u e
theorem Grow.ext (g : Grow F H F' H') : Ext q F A H F' A H' :=
  ⟨g.sF, fun a n => by
    obtain ⟨⟨o, e⟩, k⟩ := of_not_nw n
    exact ⟨(g.sH a o e).trans e.symm, g.old a o e, k⟩, fun _ => g.sH⟩
theorem Grow.keep (g : Grow F H F' H') {t : T} {v : V} {S : List Addr} (o : Ow K F H v t S) : Ow K F' H' v t S :=
  Ow.mono g.sF t v S (fun a m => by
    obtain ⟨f, u, e⟩ := Ow.inS t v S o a m
    exact ⟨(g.old a u e).trans f, (g.sH a u e).trans e.symm⟩) o
theorem Good.grow (G : Good K P F A ρ σ H) (g : Grow F H F' H') : Good K P F' A ρ σ H' :=
  ⟨g.sub, G.len, fun i s e => by
    have h := G.slot i s e
    cases s with
    | non => exact h
    | hid => exact h
    | own t => obtain ⟨v, e1, o⟩ := h; exact ⟨v, e1, g.keep o⟩
    | pin t => obtain ⟨v, e1, e2, o⟩ := h; exact ⟨v, e1, e2, g.keep o⟩, G.out, G.nd, G.dj, G.ln⟩

/-- what an expression gave -/
def Rx (K : PySem.W.Frag) (N : Addr → Prop) (F : Hp) (A : Nat → List Addr) (σ : L2.St) (H : Hp) (v : V) : R → Prop
  | .val t => ∃ S, Ow K F H v t S ∧ S.Nodup ∧ (∀ a ∈ S, ∀ i, a ∉ A i) ∧ ∀ a ∈ S, N a
  | .bor i p => ∃ v0, σ[i]? = some (some v0) ∧ VAt H v0 p v
/-- it may wait while something else is reckoned -/
def R.waits (q : Bool) : R → Bool
  | .val _ => true
  | .bor _ p => q || p.isEmpty
theorem Rx.le {N N' : Addr → Prop} {v : V} {r : R} (h : Rx K N F A σ H v r) (n : ∀ a, N a → N' a) : Rx K N' F A σ H v r := by
  cases r with
  | val t => obtain ⟨S, o, nd, d, m⟩ := h; exact ⟨S, o, nd, d, fun a x => n a (m a x)⟩
  | bor i p => exact h
theorem Rx.wait {N : Addr → Prop} {v : V} {r : R} (h : Rx K N F A σ H v r) (x : Ext q F A H F' A' H') (w : r.waits q = true) : Rx K N F' A' σ H' v r := by
  cases r with
  | val t =>
    obtain ⟨S, o, nd, n, nn⟩ := h
    have k : ∀ a ∈ S, H' a = H a ∧ F' a = none ∧ ∀ i, a ∉ A' i := fun a m => by
      obtain ⟨f, u, e⟩ := Ow.inS t v S o a m
      obtain ⟨h1, f1, n1⟩ := x.frm a (not_nw e (n a m))
      exact ⟨h1, f1.trans f, n1⟩
    exact ⟨S, Ow.mono x.sF t v S (fun a m => ⟨(k a m).2.1, (k a m).1⟩) o, nd, fun a m => (k a m).2.2, nn⟩
  | bor i p =>
    obtain ⟨v0, e, a⟩ := h
    refine ⟨v0, e, ?_⟩
    cases p with
    | nil => exact a
    | cons k p =>
      have hq : q = true := by
        have w' : (q || false) = true := w
        rw [Bool.or_false] at w'
        exact w'
      exact a.same (x.qt hq)

/-- the tree that is meant -/
def look (ρ : MS) : R → Option T
  | .val t => some t
  | .bor i p => (ρ[i]?.bind Sl.tree?).bind fun t => t.get p
theorem Good.tree (G : Good K P F A ρ σ H) {i : Nat} {t : T} (e : ρ[i]?.bind Sl.tree? = some t) : ∃ v, σ[i]? = some (some v) ∧ Ow K F H v t (A i) := by
  obtain ⟨s, e1, e2⟩ := Option.bind_eq_some_iff.mp e
  have h := G.slot i s e1
  cases s with
  | non => cases e2
  | hid => cases e2
  | own u =>
    cases e2
    obtain ⟨v, a, b⟩ := h
    exact ⟨v, a, b⟩
  | pin u =>
    cases e2
    obtain ⟨v, a, _, b⟩ := h
    exact ⟨v, a, b⟩
/-- a value that may be read as t -/
def Rd (K : PySem.W.Frag) (F H : Hp) (v : V) (t : T) : Prop := ∃ S, Ow K F H v t S
theorem Rx.look {N : Addr → Prop} (G : Good K P F A ρ σ H) {v : V} {r : R} {t : T} (h : Rx K N F A σ H v r) (e : look ρ r = some t) : Rd K F H v t := by
  cases r with
  | val u =>
    have e' : u = t := Option.some.inj e
    subst e'
    obtain ⟨S, o, _⟩ := h
    exact ⟨S, o⟩
  | bor i p =>
    obtain ⟨v0, e0, a⟩ := h
    obtain ⟨t0, e1, e2⟩ := Option.bind_eq_some_iff.mp (show (ρ[i]?.bind Sl.tree?).bind (fun t => t.get p) = some t from e)
    obtain ⟨v1, e3, o⟩ := G.tree e1
    rw [e0] at e3
    injection e3 with e3
    injection e3 with e3
    subst e3
    obtain ⟨w, S1, hv, ow, _⟩ := Ow.zoom (p := p) o (G.nd i) e2
    have := a.inj hv
    subst this
    exact ⟨S1, ow⟩
theorem Rd.grow {v : V} {t : T} (g : Grow F H F' H') (h : Rd K F H v t) : Rd K F' H' v t := let ⟨S, o⟩ := h; ⟨S, g.keep o⟩
theorem Rd.fr {v : V} {d : PyData} (h : Rd K F H v (.fr d)) : Dp K F v d := by
  obtain ⟨S, o⟩ := h
  cases o with
  | fr a => exact a
theorem Rd.data {v : V} {t : T} {d : PyData} (s : Same F H) (h : Rd K F H v t) (e : t.erase = some d) : Dp K H v d := let ⟨_, o⟩ := h; o.read s e
theorem Rd.int {v : V} {i : Int} (h : Rd K F H v (.fr (.int i))) : v = .int i := by cases h.fr; rfl
theorem Rd.bool {v : V} {i : Bool} (h : Rd K F H v (.fr (.bool i))) : v = .bl i := by cases h.fr; rfl
theorem Rd.str {v : V} {i : Str} (h : Rd K F H v (.fr (.str i))) : v = .str i := by cases h.fr; rfl
theorem Rd.none {v : V} (h : Rd K F H v (.fr .none)) : v = .non := by cases h.fr; rfl

/-! ### views -/
def T.asInt : T → Option Int
  | .fr (.int i) => some i
  | _ => Option.none
def T.asBool : T → Option Bool
  | .fr (.bool i) => some i
  | _ => Option.none
def T.asStr : T → Option Str
  | .fr (.str i) => some i
  | _ => Option.none
/-- a list's items, all frozen -/
def T.asList : T → Option (List PyData)
  | .fr (.list ds) => some ds
  | .lst ts => frs ts
  | .scr ds => some ds
  | _ => Option.none
/-- .. of a list that stands in the heap by itself -/
def T.asLst : T → Option (List PyData)
  | .fr (.list ds) => some ds
  | .lst ts => frs ts
  | _ => Option.none
def T.asTup : T → Option (List PyData)
  | .fr (.tuple ds) => some ds
  | .tup ts => frs ts
  | _ => Option.none
theorem Rd.asInt {v : V} {t : T} {i : Int} (h : Rd K F H v t) (e : t.asInt = some i) : v = .int i := by
  unfold T.asInt at e
  split at e
  · cases e; exact h.int
  · cases e
theorem Rd.asBool {v : V} {t : T} {i : Bool} (h : Rd K F H v t) (e : t.asBool = some i) : v = .bl i := by
  unfold T.asBool at e
  split at e
  · cases e; exact h.bool
  · cases e
theorem Rd.asStr {v : V} {t : T} {i : Str} (h : Rd K F H v t) (e : t.asStr = some i) : v = .str i := by
  unfold T.asStr at e
  split at e
  · cases e; exact h.str
  · cases e
theorem SqT.same {a : Addr} {xs : List V} (s : Same F H) (h : SqT K F a xs) : SqT K H a xs := by
  rcases h with (h | ⟨o, h⟩) | h
  · exact .inl (.inl (s _ _ h))
  · exact .inl (.inr ⟨o, s _ _ h⟩)
  · exact .inr h
theorem Rd.asList {v : V} {t : T} {ds : List PyData} (s : Same F H) (h : Rd K F H v t) (e : t.asList = some ds) : ∃ a xs, v = .ref a ∧ SqL K H a xs ∧ DpAll K F xs ds := by
  unfold T.asList at e
  split at e
  · cases e
    cases h.fr with
    | lst a b => exact ⟨_, _, rfl, .of (s _ _ a), b⟩
  · obtain ⟨S, o⟩ := h
    rw [of_frs e] at o
    cases o with
    | lst a b c => exact ⟨_, _, rfl, .of b, (OwAll.of_frs c).1⟩
  · cases e
    obtain ⟨S, o⟩ := h
    cases o with
    | scr a b => exact ⟨_, _, rfl, s.seq a, b⟩
  · cases e
theorem Rd.asLst {v : V} {t : T} {ds : List PyData} (s : Same F H) (h : Rd K F H v t) (e : t.asLst = some ds) : ∃ a xs, v = .ref a ∧ H a = some (.lst xs) ∧ DpAll K F xs ds := by
  unfold T.asLst at e
  split at e
  · cases e
    cases h.fr with
    | lst a b => exact ⟨_, _, rfl, s _ _ a, b⟩
  · obtain ⟨S, o⟩ := h
    rw [of_frs e] at o
    cases o with
    | lst a b c => exact ⟨_, _, rfl, b, (OwAll.of_frs c).1⟩
  · cases e
theorem Rd.asTup {v : V} {t : T} {ds : List PyData} (s : Same F H) (h : Rd K F H v t) (e : t.asTup = some ds) : ∃ a xs, v = .ref a ∧ SqT K H a xs ∧ DpAll K F xs ds := by
  unfold T.asTup at e
  split at e
  · cases e
    cases h.fr with
    | tup a b => exact ⟨_, _, rfl, SqT.same s a, b⟩
  · obtain ⟨S, o⟩ := h
    rw [of_frs e] at o
    cases o with
    | tup a b c => exact ⟨_, _, rfl, .of b, (OwAll.of_frs c).1⟩
  · cases e

/-! ### the judgement of expressions -/
theorem PE_mono {X : Cx} {e : Expr} {t t' : TE} (h : PE X e t) (m : ∀ σ H Q, t' σ H Q → t σ H Q) : PE X e t' :=
  ⟨fun pins s σ H Q I w => h.run pins s σ H Q I (m σ H Q w)⟩
theorem PT_mono {X : Cx} {e : Expr} {t t' : TT} (h : PT X e t) (m : ∀ σ H Q, t' σ H Q → t σ H Q) : PT X e t' :=
  ⟨fun pins s σ H Q I w => h.run pins s σ H Q I (m σ H Q w)⟩
theorem PS_mono {X : Cx} {e : Stmt} {t t' : TS} (h : PS X e t) (m : ∀ D σ H, t' D σ H → t D σ H) : PS X e t' :=
  ⟨fun pins s σ H D I w => h.run pins s σ H D I (m D σ H w)⟩
theorem PSs_mono {X : Cx} {e : List Stmt} {t t' : TS} (h : PSs X e t) (m : ∀ D σ H, t' D σ H → t D σ H) : PSs X e t' :=
  ⟨fun pins s σ H D I w => h.run pins s σ H D I (m D σ H w)⟩
theorem PA_mono {X : Cx} {e : List Expr} {t t' : TA} (h : PA X e t) (m : ∀ σ H Q, t' σ H Q → t σ H Q) : PA X e t' :=
  ⟨fun pos pins s σ H Q I w => h.run pos pins s σ H Q I (m σ H Q w)⟩

def tE (K : PySem.W.Frag) (q : Bool) (g : M R) : TE := fun σ H Q => ∃ P F A ρ r ρ', Good K P F A ρ σ H ∧ g ρ = some (r, ρ') ∧
  ∀ F' A' H' v, Good K P F' A' ρ' σ H' → Ext q F A H F' A' H' → Rx K (Nw A H) F' A' σ H' v r → Q v H'
def tT (K : PySem.W.Frag) (q : Bool) (c : M Bool) : TT := fun σ H Q => ∃ P F A ρ b ρ', Good K P F A ρ σ H ∧ c ρ = some (b, ρ') ∧
  ∀ F' A' H', Good K P F' A' ρ' σ H' → Ext q F A H F' A' H' → Q b H'

/-! names, constants -/
def eVar (i : Nat) : M R := fun ρ => (ρ[i]?.bind Sl.tree?).map fun t => ((match t with | .fr d => .val (.fr d) | _ => .bor i []), ρ)
def eC (d : PyData) : M R := fun ρ => some (.val (.fr d), ρ)
variable {X : Cx}
theorem Rx.val_fr {N : Addr → Prop} {v : V} {d : PyData} (h : Dp K F v d) : Rx K N F A σ H v (.val (.fr d)) := ⟨[], .fr h, List.nodup_nil, (fun _ m => nomatch m), fun _ m => nomatch m⟩
theorem e_var {i : Nat} {e : Expr} (h : PE X e (tVar i)) : PE X e (tE K true (eVar i)) := PE_mono h fun σ H Q ⟨P, F, A, ρ, r, ρ', G, e, k⟩ => by
  obtain ⟨t, e1, e2⟩ := Option.map_eq_some_iff.mp (show (ρ[i]?.bind Sl.tree?).map _ = some (r, ρ') from e)
  obtain ⟨v, e3, o⟩ := G.tree e1
  injection e2 with e4 e5
  subst e5
  refine ⟨v, e3, k F A H v G Ext.refl ?_⟩
  subst e4
  cases t with
  | fr d => exact Rx.val_fr (Rd.fr ⟨_, o⟩)
  | lst _ => exact ⟨v, e3, rfl⟩
  | tup _ => exact ⟨v, e3, rfl⟩
  | dic _ _ => exact ⟨v, e3, rfl⟩
  | scr _ => exact ⟨v, e3, rfl⟩
theorem e_c {v : V} {d : PyData} {e : Expr} (h : PE X e (tC v)) (hd : ∀ F, Dp K F v d) : PE X e (tE K true (eC d)) := PE_mono h fun σ H Q ⟨P, F, A, ρ, r, ρ', G, e, k⟩ => by
  injection (show some (R.val (.fr d), ρ) = some (r, ρ') from e) with e
  injection e with e1 e2
  subst e1 e2
  exact k F A H v G Ext.refl (Rx.val_fr (hd F))

/-! ### operators by values -/
/-- what is done with two values that are read -/
def rT2 (K : PySem.W.Frag) (f : T → T → Option T) : R2 := fun x y H Q => ∃ F t u r, Same F H ∧ Rd K F H x t ∧ Rd K F H y u ∧ f t u = some r ∧
  ∀ F' H' v S, Grow F H F' H' → Ow K F' H' v r S → S.Nodup → (∀ a ∈ S, H a = Option.none) → Q v H'
def rT1 (K : PySem.W.Frag) (f : T → Option T) : V → Hp → VK → Prop := fun x H Q => ∃ F t r, Same F H ∧ Rd K F H x t ∧ f t = some r ∧
  ∀ F' H' v S, Grow F H F' H' → Ow K F' H' v r S → S.Nodup → (∀ a ∈ S, H a = Option.none) → Q v H'
theorem Good.newRx (G : Good K P F A ρ σ H) {v : V} {r : T} {S : List Addr} (o : Ow K F' H' v r S) (nd : S.Nodup) (n : ∀ a ∈ S, H a = Option.none) : Rx K (Nw A H) F' A σ H' v (.val r) :=
  ⟨S, o, nd, (fun a m i m' => by
    obtain ⟨_, u, e⟩ := G.noF i a m'
    rw [n a m] at e; cases e), fun a m => .inl (n a m)⟩
def bin (qb : Bool) (f : T → T → Option T) (ga gb : M R) : M R := fun ρ => (ga ρ).bind fun x => (gb x.2).bind fun y =>
  if x.1.waits qb = true then (look y.2 x.1).bind fun t => (look y.2 y.1).bind fun u => (f t u).map fun r => (.val r, y.2) else Option.none
theorem bin_tr {ga gb : M R} {qa qb : Bool} {f : T → T → Option T} {r : R2} {ta tb : TE} (hr : ∀ x y H Q, rT2 K f x y H Q → r x y H Q) (ha : ∀ σ H Q, tE K qa ga σ H Q → ta σ H Q) (hb : ∀ σ H Q, tE K qb gb σ H Q → tb σ H Q) :
    ∀ σ H Q, tE K (qa && qb) (bin qb f ga gb) σ H Q → tOp r ta tb σ H Q := fun σ H Q ⟨P, F, A, ρ, r0, ρ', G, e, k⟩ => by
  obtain ⟨⟨x, ρ1⟩, e1, e2⟩ := Option.bind_eq_some_iff.mp (show ((ga ρ).bind _) = some (r0, ρ') from e)
  obtain ⟨⟨y, ρ2⟩, e3, e4⟩ := Option.bind_eq_some_iff.mp (show ((gb ρ1).bind _) = some (r0, ρ') from e2)
  have e4 : (if x.waits qb = true then (look ρ2 x).bind fun t => (look ρ2 y).bind fun u => (f t u).map fun r => (R.val r, ρ2) else Option.none) = some (r0, ρ') := e4
  split at e4
  · rename_i w
    obtain ⟨t, f1, e5⟩ := Option.bind_eq_some_iff.mp e4
    obtain ⟨u, f2, e6⟩ := Option.bind_eq_some_iff.mp e5
    obtain ⟨z, f3, e7⟩ := Option.map_eq_some_iff.mp e6
    injection e7 with e8 e9
    subst e8 e9
    refine ha σ H _ ⟨P, F, A, ρ, x, ρ1, G, e1, fun F1 A1 H1 v1 G1 E1 R1 => ?_⟩
    refine hb σ H1 _ ⟨P, F1, A1, ρ1, y, ρ2, G1, e3, fun F2 A2 H2 v2 G2 E2 R2' => ?_⟩
    refine hr _ _ _ _ ⟨F2, t, u, z, G2.same, (R1.wait E2 w).look G2 f1, R2'.look G2 f2, f3, fun F3 H3 v S g o nd n => ?_⟩
    exact k F3 A2 H3 v (G2.grow g) (((E1.trans E2).trans (g.ext (q := true))).le (by simp)) ((G2.newRx o nd n).le fun a m => (E1.trans E2).nw' m)
  · cases e4
variable {a b : Expr} {ga gb : M R} {qa qb : Bool} {f : T → T → Option T} {pos : Pos}
theorem e_op {op : Operator} (ho : OpR X (binaryOp op) (rT2 K f)) (ha : PE X a (tE K qa ga)) (hb : PE X b (tE K qb gb)) : PE X (.BinOp a op b pos) (tE K (qa && qb) (bin qb f ga gb)) :=
  PE_mono (pe_op ho ha hb) (bin_tr (fun _ _ _ _ h => h) (fun _ _ _ h => h) fun _ _ _ h => h)
theorem e_cmp {op : CmpOp} (ho : OpR X (compareOp op) (rT2 K f)) (ha : PE X a (tE K qa ga)) (hb : PE X b (tE K qb gb)) (hm : behindInMarks op b = false) : PE X (.Compare a [op] [b] pos) (tE K (qa && qb) (bin qb f ga gb)) :=
  PE_mono (pe_cmpR ho ha hb hm) (bin_tr (fun _ _ _ _ h => h) (fun _ _ _ h => h) fun _ _ _ h => h)
theorem e_ix (hr : IxR X (rT2 K f)) (ha : PE X a (tE K qa ga)) (hb : PE X b (tE K qb gb)) (hs : PlainIx b) : PE X (.Subscript a b pos) (tE K (qa && qb) (bin qb f ga gb)) :=
  PE_mono (pe_ix hr ha hb hs) (bin_tr (fun _ _ _ _ h => h) (fun _ _ _ h => h) fun _ _ _ h => h)
def un (f : T → Option T) (ga : M R) : M R := fun ρ => (ga ρ).bind fun x => (look x.2 x.1).bind fun t => (f t).map fun r => (.val r, x.2)
theorem un_tr {f : T → Option T} {ga : M R} {r : V → Hp → VK → Prop} (hr : ∀ x H Q, rT1 K f x H Q → r x H Q) :
    ∀ σ H Q, tE K qa (un f ga) σ H Q → tE K qa ga σ H fun x H1 => r x H1 Q := fun σ H Q ⟨P, F, A, ρ, r0, ρ', G, e, k⟩ => by
  obtain ⟨⟨x, ρ1⟩, e1, e2⟩ := Option.bind_eq_some_iff.mp (show ((ga ρ).bind _) = some (r0, ρ') from e)
  obtain ⟨t, f1, e3⟩ := Option.bind_eq_some_iff.mp (show (look ρ1 x).bind _ = some (r0, ρ') from e2)
  obtain ⟨z, f3, e7⟩ := Option.map_eq_some_iff.mp e3
  injection e7 with e8 e9
  subst e8 e9
  refine ⟨P, F, A, ρ, x, ρ1, G, e1, fun F1 A1 H1 v1 G1 E1 R1 => hr _ _ _ ⟨F1, t, z, G1.same, R1.look G1 f1, f3, fun F3 H3 v S g o nd n => ?_⟩⟩
  exact k F3 A1 H3 v (G1.grow g) ((E1.trans (g.ext (q := true))).le (by simp)) ((G1.newRx o nd n).le fun a m => E1.nw' m)
theorem e_un {op : UnaryOp} {f : T → Option T} (ho : UnR X (unaryOp op) (rT1 K f)) (ha : PE X a (tE K qa ga)) : PE X (.UnaryOp op a pos) (tE K qa (un f ga)) :=
  PE_mono (pe_un ho ha) (un_tr fun _ _ _ h => h)

/-! ### a path further: an own part of an own thing -/
def ofKid (i : Nat) (p : Path) (k : Nat) : T → R
  | .fr d => .val (.fr d)
  | _ => .bor i (p ++ [k])
/-- a[b]; where a's part at b is owned: borrowed (lists, tuples) -/
def subsK (f : T → T → Option T) (ρ : MS) (t u : T) (i : Nat) (p : Path) : Option (R × MS) :=
  match t with
  | .lst ts => ((u.asInt.bind fun z => ixN ts.length z).bind fun k => ts[k]?.map fun c => ofKid i p k c).map fun r => (r, ρ)
  | .tup ts => ((u.asInt.bind fun z => ixN ts.length z).bind fun k => ts[k]?.map fun c => ofKid i p k c).map fun r => (r, ρ)
  | t => (f t u).map fun r => (.val r, ρ)
def subs (qb : Bool) (f : T → T → Option T) (ga gb : M R) : M R := fun ρ => (ga ρ).bind fun x => (gb x.2).bind fun y =>
  match x.1 with
  | .bor i p => if (R.bor i p).waits qb = true then (look y.2 (.bor i p)).bind fun t => (look y.2 y.1).bind fun u => subsK f y.2 t u i p else Option.none
  | .val t => (look y.2 y.1).bind fun u => (f t u).map fun r => (.val r, y.2)
theorem VAt.snoc : ∀ {p : Path} {v0 v w : V} {k : Nat} {l : Addr} {xs : List V}, VAt H v0 p v → v = .ref l → Kids H l xs → xs[k]? = some w → VAt H v0 (p ++ [k]) w
  | [], _, _, _, _, _, _, a, e, hk, hx => ⟨_, _, _, (show _ = _ from a).trans e, hk, hx, rfl⟩
  | j :: p, _, _, _, _, _, _, ⟨l', ys, u, e1, e2, e3, e4⟩, e, hk, hx => ⟨l', ys, u, e1, e2, e3, VAt.snoc e4 e hk hx⟩
theorem e_subs (hr : IxR X (rT2 X.K f)) (ha : PE X a (tE X.K qa ga)) (hb : PE X b (tE X.K qb gb)) (hs : PlainIx b) : PE X (.Subscript a b pos) (tE X.K (qa && qb) (subs qb f ga gb)) :=
  PE_mono (pe_ix (IxR.or hr (ix_seq (X := X))) ha hb hs) fun σ H Q ⟨P, F, A, ρ, r0, ρ', G, e, k⟩ => by
    obtain ⟨⟨x, ρ1⟩, e1, e2⟩ := Option.bind_eq_some_iff.mp (show ((ga ρ).bind _) = some (r0, ρ') from e)
    obtain ⟨⟨y, ρ2⟩, e3, e4⟩ := Option.bind_eq_some_iff.mp (show ((gb ρ1).bind _) = some (r0, ρ') from e2)
    refine ⟨P, F, A, ρ, x, ρ1, G, e1, fun F1 A1 H1 v1 G1 E1 R1 => ?_⟩
    refine ⟨P, F1, A1, ρ1, y, ρ2, G1, e3, fun F2 A2 H2 v2 G2 E2 R2' => ?_⟩
    have plain : ∀ t u z, Rd X.K F2 H2 v1 t → look ρ2 y = some u → f t u = some z → r0 = .val z → ρ' = ρ2 → rT2 X.K f v1 v2 H2 Q := fun t u z ht hu hz e8 e9 => by
      subst e8 e9
      refine ⟨F2, t, u, z, G2.same, ht, R2'.look G2 hu, hz, fun F3 H3 v S g o nd n => ?_⟩
      exact k F3 A2 H3 v (G2.grow g) (((E1.trans E2).trans (g.ext (q := true))).le (by simp)) ((G2.newRx o nd n).le fun a m => (E1.trans E2).nw' m)
    cases x with
    | val t =>
      have e4 : ((look ρ2 y).bind fun u => (f t u).map fun r => (R.val r, ρ2)) = some (r0, ρ') := e4
      obtain ⟨u, f2, e6⟩ := Option.bind_eq_some_iff.mp e4
      obtain ⟨z, f3, e7⟩ := Option.map_eq_some_iff.mp e6
      injection e7 with e8 e9
      exact .inl (plain t u z ((R1.wait E2 rfl).look G2 rfl) f2 f3 e8.symm e9.symm)
    | bor i p =>
      have e4 : (if (R.bor i p).waits qb = true then (look ρ2 (.bor i p)).bind fun t => (look ρ2 y).bind fun u => subsK f ρ2 t u i p else Option.none) = some (r0, ρ') := e4
      split at e4
      · rename_i w
        obtain ⟨t, f1, e5⟩ := Option.bind_eq_some_iff.mp e4
        obtain ⟨u, f2, e6⟩ := Option.bind_eq_some_iff.mp e5
        have R1' := R1.wait E2 w
        have rd := R1'.look G2 f1
        obtain ⟨v0, hv0, va⟩ := id R1'
        -- a list's or a tuple's own part
        have part : ∀ (ts : List T) (l : Addr) (xs : List V) (S : List Addr), v1 = .ref l → Kids H2 l xs → OwAll X.K F2 H2 xs ts S → (SqL X.K H2 l xs ∨ SqT X.K H2 l xs) →
            (((u.asInt.bind fun z => ixN ts.length z).bind fun k => ts[k]?.map fun c => ofKid i p k c).map fun r => (r, ρ2)) = some (r0, ρ') → rIx X.K v1 v2 H2 Q := fun ts l xs S ev hk oa sq q => by
          obtain ⟨r1, q1, q2⟩ := Option.map_eq_some_iff.mp q
          injection q2 with q3 q4
          subst q3 q4
          obtain ⟨j, q5, q6⟩ := Option.bind_eq_some_iff.mp q1
          obtain ⟨z, q7, q8⟩ := Option.bind_eq_some_iff.mp q5
          obtain ⟨c, q9, q10⟩ := Option.map_eq_some_iff.mp q6
          have ez := (R2'.look G2 f2).asInt q7
          obtain ⟨w', S1, Sa, Sb, h1, _, h2, _⟩ := OwAll.at oa q9
          have hl := OwAll.length oa
          have hat : atI xs z = some w' := by
            unfold atI
            rw [hl, q8]
            exact h1
          have fin : Q w' H2 := by
            refine k F2 A2 H2 w' G2 (E1.trans E2) ?_
            subst q10
            cases c with
            | fr d => exact Rx.val_fr (Rd.fr ⟨_, h2⟩)
            | lst _ => exact ⟨v0, hv0, VAt.snoc va ev hk h1⟩
            | tup _ => exact ⟨v0, hv0, VAt.snoc va ev hk h1⟩
            | dic _ _ => exact ⟨v0, hv0, VAt.snoc va ev hk h1⟩
            | scr _ => exact ⟨v0, hv0, VAt.snoc va ev hk h1⟩
          rcases sq with sq | sq
          · exact .inl ⟨l, xs, z, w', ev, ez, sq, hat, fin⟩
          · exact .inr (.inl ⟨l, xs, z, w', ev, ez, sq, hat, fin⟩)
        cases t with
        | fr d =>
          have e6 : ((f (.fr d) u).map fun r => (R.val r, ρ2)) = some (r0, ρ') := e6
          obtain ⟨z, f3, e7⟩ := Option.map_eq_some_iff.mp e6
          injection e7 with e8 e9
          exact .inl (plain _ u z rd f2 f3 e8.symm e9.symm)
        | scr zs =>
          have e6 : ((f (.scr zs) u).map fun r => (R.val r, ρ2)) = some (r0, ρ') := e6
          obtain ⟨z, f3, e7⟩ := Option.map_eq_some_iff.mp e6
          injection e7 with e8 e9
          exact .inl (plain _ u z rd f2 f3 e8.symm e9.symm)
        | dic ks ts =>
          have e6 : ((f (.dic ks ts) u).map fun r => (R.val r, ρ2)) = some (r0, ρ') := e6
          obtain ⟨z, f3, e7⟩ := Option.map_eq_some_iff.mp e6
          injection e7 with e8 e9
          exact .inl (plain _ u z rd f2 f3 e8.symm e9.symm)
        | lst ts =>
          obtain ⟨S, o⟩ := rd
          cases o with
          | lst a b c => exact .inr (part ts _ _ _ rfl (.inl b) c (.inl (.of b)) e6)
        | tup ts =>
          obtain ⟨S, o⟩ := rd
          cases o with
          | tup a b c => exact .inr (part ts _ _ _ rfl (.inr (.inl b)) c (.inr (.of b)) e6)
      · cases e4
end
end DL

/-! DL3: freezing, arguments, displays, tests, calls of built-ins, methods. -/
namespace DL
open PySem PySem.Spec PyProof.Rows L2
section
variable {K : PySem.W.Frag} {P : Gh} {F F' F1 F2 H H' H1 H2 : Hp} {A A' A1 A2 : Nat → List Addr} {ρ ρ' ρ1 ρ2 : MS} {σ σ' : L2.St} {q q' : Bool}
def updA (A : Nat → List Addr) (i : Nat) (S : List Addr) : Nat → List Addr := fun j => if j = i then S else A j
theorem updA_same {i : Nat} {S : List Addr} : updA A i S i = S := if_pos rfl
theorem updA_ne {i j : Nat} {S : List Addr} (h : j ≠ i) : updA A i S j = A j := if_neg h
theorem SlotOk.keep {i : Nat} {s : Sl} {v? : Option (Option V)} {S : List Addr} (h : SlotOk K P F H i s v? S) (sF : Same F F') (k : ∀ a ∈ S, F' a = none ∧ H' a = H a) : SlotOk K P F' H' i s v? S := by
  cases s with
  | non => exact h
  | hid => exact h
  | own t => obtain ⟨v, e, o⟩ := h; exact ⟨v, e, Ow.mono sF t v S k o⟩
  | pin t => obtain ⟨v, e, e2, o⟩ := h; exact ⟨v, e, e2, Ow.mono sF t v S k o⟩
theorem Good.upd (G : Good K P F A ρ σ H) {i : Nat} {s' : Sl} {S' : List Addr} (hi : i < ρ.length) (sF : Same F F') (sub : Same F' H') (keep : ∀ j, j ≠ i → ∀ a ∈ A j, F' a = none ∧ H' a = H a)
    (hl : σ'.length = σ.length) (hσ : ∀ j, j ≠ i → σ'[j]? = σ[j]?) (ok : SlotOk K P F' H' i s' σ'[i]? S') (nd : S'.Nodup) (dj : ∀ a ∈ S', ∀ j, j ≠ i → a ∉ A j) :
    Good K P F' (updA A i S') (ρ.set i s') σ' H' where
  same := sub
  len := by rw [List.length_set, G.len, hl]
  slot := fun j s e => by
    by_cases hj : j = i
    · subst hj
      rw [List.getElem?_set_self hi] at e
      cases e
      rw [updA_same]
      exact ok
    · rw [List.getElem?_set_ne (Ne.symm hj)] at e
      rw [updA_ne hj, hσ j hj]
      exact (G.slot j s e).keep sF (keep j hj)
  out := fun j h => by
    rw [List.length_set] at h
    have hj : j ≠ i := by omega
    rw [updA_ne hj]
    exact G.out j h
  nd := fun j => by
    by_cases hj : j = i
    · subst hj; rw [updA_same]; exact nd
    · rw [updA_ne hj]; exact G.nd j
  dj := fun j k a m m' => by
    by_cases hj : j = i
    · by_cases hk : k = i
      · exact hj.trans hk.symm
      · subst hj
        rw [updA_same] at m
        rw [updA_ne hk] at m'
        exact absurd m' (dj a m k hk)
    · by_cases hk : k = i
      · subst hk
        rw [updA_same] at m'
        rw [updA_ne hj] at m
        exact absurd m (dj a m' j hj)
      · rw [updA_ne hj] at m
        rw [updA_ne hk] at m'
        exact G.dj j k a m m'
  ln := hl.trans G.ln
/-- frozen, more of it: what the slots own stays theirs -/
theorem Good.frz (G : Good K P F A ρ σ H) {S : List Addr} (n : ∀ a ∈ S, F a = none) (d : ∀ a ∈ S, ∀ i, a ∉ A i) : Good K P (frzF F H S) A ρ σ H :=
  ⟨frzF_sub G.same, G.len, fun i s e => (G.slot i s e).keep (frzF_same n) fun a m => ⟨(frzF_out fun z => d a z i m).trans (G.noF i a m).1, rfl⟩, G.out, G.nd, G.dj, G.ln⟩

def frz (r : R) : M PyData := fun ρ => match r with
  | .val t => t.erase.map fun d => (d, ρ)
  | .bor i p => ρ[i]?.bind fun s => s.tree?.bind fun t => (t.get p).bind fun u => u.erase.map fun d => (d, ρ.set i (s.with (t.put p (.fr d))))
theorem Good.slotTree (G : Good K P F A ρ σ H) {i : Nat} {s : Sl} {t : T} (e : ρ[i]? = some s) (et : s.tree? = some t) :
    ∃ v, σ[i]? = some (some v) ∧ Ow K F H v t (A i) ∧ ∀ F' H' t' S', Ow K F' H' v t' S' → SlotOk K P F' H' i (s.with t') σ[i]? S' := by
  have h := G.slot i s e
  cases s with
  | non => cases et
  | hid => cases et
  | own u =>
    cases et
    obtain ⟨v, a, b⟩ := h
    exact ⟨v, a, b, fun F' H' t' S' o => ⟨v, a, o⟩⟩
  | pin u =>
    cases et
    obtain ⟨v, a, c, b⟩ := h
    exact ⟨v, a, b, fun F' H' t' S' o => ⟨v, a, c, o⟩⟩
theorem frz_ok {v : V} {r : R} {d : PyData} (G : Good K P F1 A1 ρ1 σ H1) (E : Ext q F A H F1 A1 H1) (h : Rx K (Nw A H) F1 A1 σ H1 v r) (e : frz r ρ1 = some (d, ρ2)) :
    ∃ F' A', Good K P F' A' ρ2 σ H1 ∧ Ext q F A H F' A' H1 ∧ Dp K F' v d := by
  cases r with
  | val t =>
    obtain ⟨d', e1, e2⟩ := Option.map_eq_some_iff.mp (show t.erase.map (fun d => (d, ρ1)) = some (d, ρ2) from e)
    injection e2 with e2 e3
    subst e2 e3
    obtain ⟨S, o, nd, dis, nw⟩ := h
    have nf : ∀ a ∈ S, F1 a = none := fun a m => (Ow.inS t v S o a m).1
    refine ⟨frzF F1 H1 S, A1, G.frz nf dis, ⟨E.sF.trans (frzF_same nf), fun a n => ?_, E.qt⟩, o.freeze e1⟩
    obtain ⟨h1, f1, n1⟩ := E.frm a n
    exact ⟨h1, (frzF_out fun m => n (nw a m)).trans f1, n1⟩
  | bor i p =>
    obtain ⟨s, es, e1⟩ := Option.bind_eq_some_iff.mp (show (ρ1[i]?.bind fun s => s.tree?.bind fun t => (t.get p).bind fun u => u.erase.map fun d => (d, ρ1.set i (s.with (t.put p (.fr d))))) = some (d, ρ2) from e)
    obtain ⟨t, et, e2⟩ := Option.bind_eq_some_iff.mp e1
    obtain ⟨u, eu, e3⟩ := Option.bind_eq_some_iff.mp e2
    obtain ⟨d', ed, e4⟩ := Option.map_eq_some_iff.mp e3
    injection e4 with e4 e5
    subst e4 e5
    obtain ⟨v0, ev, va⟩ := h
    obtain ⟨v1, ev1, o, back⟩ := G.slotTree es et
    rw [ev] at ev1
    injection ev1 with ev1
    injection ev1 with ev1
    subst ev1
    obtain ⟨w, S1, hw, ow, nd1, sub, put⟩ := Ow.zoom (p := p) o (G.nd i) eu
    have := va.inj hw
    subst this
    have nf : ∀ a ∈ S1, F1 a = none := fun a m => (Ow.inS u v S1 ow a m).1
    have hd : Dp K (frzF F1 H1 S1) v d' := ow.freeze ed
    obtain ⟨S', o', nd', src⟩ := put (frzF F1 H1 S1) H1 (.fr d') [] (frzF_same nf) (fun a m n => ⟨(frzF_out n).trans (Ow.inS t v0 _ o a m).1, rfl⟩) (.fr hd) List.nodup_nil (fun a m => nomatch m)
    have src' : ∀ a ∈ S', a ∈ A1 i ∧ a ∉ S1 := fun a m => (src a m).elim (fun z => nomatch z) id
    refine ⟨frzF F1 H1 S1, updA A1 i S', G.upd (List.getElem?_eq_some_iff.mp es).1 (frzF_same nf) (frzF_sub G.same) (fun j hj a m => ?_) rfl (fun _ _ => rfl) (back _ _ _ _ o') nd' (fun a m j hj m' => hj (G.dj j i a m' (src' a m).1)), ⟨E.sF.trans (frzF_same nf), fun a n => ?_, E.qt⟩, hd⟩
    · have : a ∉ S1 := fun z => hj (G.dj j i a m (sub a z))
      exact ⟨(frzF_out this).trans (G.noF j a m).1, rfl⟩
    · obtain ⟨h1, f1, n1⟩ := E.frm a n
      refine ⟨h1, (frzF_out fun m => n1 i (sub a m)).trans f1, fun j => ?_⟩
      by_cases hj : j = i
      · subst hj
        rw [updA_same]
        exact fun m => n1 j (src' a m).1
      · rw [updA_ne hj]
        exact n1 j

/-! ### arguments, all frozen -/
def tA (K : PySem.W.Frag) (q : Bool) (g : M (List PyData)) : TA := fun σ H Q => ∃ P F A ρ ds ρ', Good K P F A ρ σ H ∧ g ρ = some (ds, ρ') ∧
  ∀ F' A' H' vs, Good K P F' A' ρ' σ H' → Ext q F A H F' A' H' → DpAll K F' vs ds → Q vs H'
def aNil : M (List PyData) := fun ρ => some ([], ρ)
def fz (g : M R) : M PyData := fun ρ => (g ρ).bind fun x => frz x.1 x.2
def aCons (g : M R) (gs : M (List PyData)) : M (List PyData) := fun ρ => (fz g ρ).bind fun x => (gs x.2).map fun y => (x.1 :: y.1, y.2)
variable {X : Cx}
theorem a_nil : PA X [] (tA X.K true aNil) := PA_mono pa_nil fun σ H Q ⟨P, F, A, ρ, ds, ρ', G, e, k⟩ => by
  injection (show some (([] : List PyData), ρ) = some (ds, ρ') from e) with e
  injection e with e1 e2
  subst e1 e2
  exact k F A H [] G Ext.refl .nil
theorem fz_tr {g : M R} {q : Bool} {te : TE} (ha : ∀ σ H Q, tE K q g σ H Q → te σ H Q) {F A H ρ σ P d ρ'} {Q : VK} (G : Good K P F A ρ σ H) (e : fz g ρ = some (d, ρ'))
    (k : ∀ F' A' H' v, Good K P F' A' ρ' σ H' → Ext q F A H F' A' H' → Dp K F' v d → Q v H') : te σ H Q := by
  obtain ⟨⟨x, ρ1⟩, e1, e2⟩ := Option.bind_eq_some_iff.mp (show ((g ρ).bind _) = some (d, ρ') from e)
  refine ha σ H Q ⟨P, F, A, ρ, x, ρ1, G, e1, fun F1 A1 H1 v G1 E1 R1 => ?_⟩
  obtain ⟨F2, A2, G2, E2, hd⟩ := frz_ok G1 E1 R1 e2
  exact k F2 A2 H1 v G2 E2 hd
theorem a_cons {e : Expr} {es : List Expr} {g : M R} {gs : M (List PyData)} {qa qb : Bool} (ha : PE X e (tE X.K qa g)) (hb : PA X es (tA X.K qb gs)) (hs : starEach (e :: es) X.env = (false, eval e X.env) :: starEach es X.env := by rfl) :
    PA X (e :: es) (tA X.K (qa && qb) (aCons g gs)) := PA_mono (pa_cons ha hb hs) fun σ H Q ⟨P, F, A, ρ, ds, ρ', G, e, k⟩ => by
  obtain ⟨⟨d, ρ1⟩, e1, e2⟩ := Option.bind_eq_some_iff.mp (show ((fz g ρ).bind _) = some (ds, ρ') from e)
  obtain ⟨⟨es', ρ2⟩, e3, e4⟩ := Option.map_eq_some_iff.mp e2
  injection e4 with e5 e6
  subst e5 e6
  refine fz_tr (te := tE X.K qa g) (fun _ _ _ h => h) G e1 fun F1 A1 H1 v G1 E1 d1 => ?_
  refine ⟨P, F1, A1, ρ1, es', ρ2, G1, e3, fun F2 A2 H2 vs G2 E2 d2 => ?_⟩
  exact k F2 A2 H2 (v :: vs) G2 (E1.trans E2) (.cons (Dp.mono E2.sF _ _ d1) d2)

/-! ### displays -/
def lineOk {α : Type} (xs : List α) : Bool := decide (xs.length ≤ sizeLine)
def eTup (gs : M (List PyData)) : M R := fun ρ => (gs ρ).bind fun x => if lineOk x.1 then some (.val (.fr (.tuple x.1)), x.2) else none
def eLst (gs : M (List PyData)) : M R := fun ρ => (gs ρ).bind fun x => if lineOk x.1 then some (.val (.lst (x.1.map T.fr)), x.2) else none
variable {es : List Expr} {gs : M (List PyData)} {pos : Pos}
theorem e_tup {x1} (h : PA X es (tA X.K q gs)) : PE X (.Tuple es x1 pos) (tE X.K q (eTup gs)) := PE_mono (pe_tup h) fun σ H Q ⟨P, F, A, ρ, r, ρ', G, e, k⟩ => by
  obtain ⟨⟨ds, ρ1⟩, e1, e2⟩ := Option.bind_eq_some_iff.mp (show ((gs ρ).bind _) = some (r, ρ') from e)
  have e2 : (if lineOk ds then some (R.val (.fr (.tuple ds)), ρ1) else none) = some (r, ρ') := e2
  split at e2
  · rename_i hl
    injection e2 with e2
    injection e2 with e3 e4
    subst e3 e4
    refine ⟨P, F, A, ρ, ds, ρ1, G, e1, fun F1 A1 H1 vs G1 E1 d1 => ⟨by rw [DpAll.length d1]; exact of_decide_eq_true hl, fun p hp => ?_⟩⟩
    have g := Grow.newF (o := .tup vs) G1.same hp
    exact k _ A1 _ _ (G1.grow g) ((E1.trans (g.ext (q := true))).le (by simp)) (Rx.val_fr (.tup (.of upd_same) (DpAll.mono g.sF _ _ d1)))
  · cases e2
theorem e_lst (h : PA X es (tA X.K q gs)) : PE X (.List es pos) (tE X.K q (eLst gs)) := PE_mono (pe_lst h) fun σ H Q ⟨P, F, A, ρ, r, ρ', G, e, k⟩ => by
  obtain ⟨⟨ds, ρ1⟩, e1, e2⟩ := Option.bind_eq_some_iff.mp (show ((gs ρ).bind _) = some (r, ρ') from e)
  have e2 : (if lineOk ds then some (R.val (.lst (ds.map T.fr)), ρ1) else none) = some (r, ρ') := e2
  split at e2
  · rename_i hl
    injection e2 with e2
    injection e2 with e3 e4
    subst e3 e4
    refine ⟨P, F, A, ρ, ds, ρ1, G, e1, fun F1 A1 H1 vs G1 E1 d1 => ⟨by rw [DpAll.length d1]; exact of_decide_eq_true hl, fun p hp => ?_⟩⟩
    have g := Grow.new (o := .lst vs) G1.same hp
    refine k _ A1 _ _ (G1.grow g) ((E1.trans (g.ext (q := true))).le (by simp)) ⟨[p], .lst (S := []) (G1.same.free hp) upd_same (OwAll.frs d1), by simp, fun a m i m' => ?_, fun a m => ?_⟩
    · have : a = p := by simpa using m
      subst this
      obtain ⟨_, u, e⟩ := G1.noF i a m'
      rw [hp] at e; cases e
    · have : a = p := by simpa using m
      subst this
      exact E1.nw' (.inl hp)
  · cases e2

/-! ### displays that keep what they are given -/
/-- taken out of its slot -/
def eMv (i : Nat) : M R := fun ρ => match ρ[i]? with
  | some (.own t) => some (.val t, ρ.set i .non)
  | _ => none
theorem e_mv {i : Nat} {e : Expr} (h : PE X e (tVar i)) : PE X e (tE X.K true (eMv i)) := PE_mono h fun σ H Q ⟨P, F, A, ρ, r, ρ', G, e, k⟩ => by
  have e : (match ρ[i]? with | some (.own t) => some (R.val t, ρ.set i .non) | _ => none) = some (r, ρ') := e
  split at e
  · rename_i t es
    injection e with e
    injection e with e3 e4
    subst e3 e4
    obtain ⟨v, ev, o⟩ := G.slot i _ es
    refine ⟨v, ev, k F (updA A i []) H v (G.upd (List.getElem?_eq_some_iff.mp es).1 (Same.refl F) G.same (fun j _ a m => ⟨(G.noF j a m).1, rfl⟩) rfl (fun _ _ => rfl) rfl List.nodup_nil (fun a m => nomatch m)) ⟨Same.refl F, fun a n => ⟨rfl, rfl, fun j => ?_⟩, fun _ => Same.refl H⟩ ⟨A i, o, G.nd i, fun a m j => ?_, fun a m => .inr ⟨i, m⟩⟩⟩
    · by_cases hj : j = i
      · subst hj; rw [updA_same]; exact fun m => nomatch m
      · rw [updA_ne hj]; exact fun m => n (.inr ⟨j, m⟩)
    · by_cases hj : j = i
      · subst hj; rw [updA_same]; exact fun m => nomatch m
      · rw [updA_ne hj]; exact fun m' => hj (G.dj j i a m' m)
  · cases e
/-- an argument kept as it came (a borrowed one is frozen) -/
def kp (g : M R) : M T := fun ρ => (g ρ).bind fun x => match x.1 with
  | .val t => some (t, x.2)
  | .bor i p => (frz (.bor i p) x.2).map fun y => (.fr y.1, y.2)
def tB (K : PySem.W.Frag) (q : Bool) (g : M (List T)) : TA := fun σ H Q => ∃ P F A ρ ts ρ', Good K P F A ρ σ H ∧ g ρ = some (ts, ρ') ∧
  ∀ F' A' H' vs S, Good K P F' A' ρ' σ H' → Ext q F A H F' A' H' → OwAll K F' H' vs ts S → S.Nodup → (∀ a ∈ S, ∀ i, a ∉ A' i) → (∀ a ∈ S, Nw A H a) → Q vs H'
def bNil : M (List T) := fun ρ => some ([], ρ)
def bCons (g : M R) (gs : M (List T)) : M (List T) := fun ρ => (kp g ρ).bind fun x => (gs x.2).map fun y => (x.1 :: y.1, y.2)
theorem b_nil : PA X [] (tB X.K true bNil) := PA_mono pa_nil fun σ H Q ⟨P, F, A, ρ, ds, ρ', G, e, k⟩ => by
  injection (show some (([] : List T), ρ) = some (ds, ρ') from e) with e
  injection e with e1 e2
  subst e1 e2
  exact k F A H [] [] G Ext.refl .nil List.nodup_nil (fun _ m => nomatch m) (fun _ m => nomatch m)
theorem kp_tr {g : M R} {q : Bool} {F A H ρ σ P t ρ'} {Q : VK} (G : Good K P F A ρ σ H) (e : kp g ρ = some (t, ρ'))
    (k : ∀ F' A' H' v S, Good K P F' A' ρ' σ H' → Ext q F A H F' A' H' → Ow K F' H' v t S → S.Nodup → (∀ a ∈ S, ∀ i, a ∉ A' i) → (∀ a ∈ S, Nw A H a) → Q v H') : tE K q g σ H Q := by
  obtain ⟨⟨x, ρ1⟩, e1, e2⟩ := Option.bind_eq_some_iff.mp (show ((g ρ).bind _) = some (t, ρ') from e)
  refine ⟨P, F, A, ρ, x, ρ1, G, e1, fun F1 A1 H1 v G1 E1 R1 => ?_⟩
  cases x with
  | val u =>
    injection (show some (u, ρ1) = some (t, ρ') from e2) with e2
    injection e2 with e3 e4
    subst e3 e4
    obtain ⟨S, o, nd, d, n⟩ := R1
    exact k F1 A1 H1 v S G1 E1 o nd d n
  | bor i p =>
    obtain ⟨⟨d, ρ2⟩, e3, e4⟩ := Option.map_eq_some_iff.mp (show (frz (.bor i p) ρ1).map (fun y => (T.fr y.1, y.2)) = some (t, ρ') from e2)
    injection e4 with e4 e5
    subst e4 e5
    obtain ⟨F2, A2, G2, E2, hd⟩ := frz_ok G1 E1 R1 e3
    exact k F2 A2 H1 v [] G2 E2 (.fr hd) List.nodup_nil (fun _ m => nomatch m) (fun _ m => nomatch m)
theorem b_cons {e : Expr} {es : List Expr} {g : M R} {gs : M (List T)} {qa qb : Bool} (ha : PE X e (tE X.K qa g)) (hb : PA X es (tB X.K qb gs)) (hs : starEach (e :: es) X.env = (false, eval e X.env) :: starEach es X.env := by rfl) :
    PA X (e :: es) (tB X.K (qa && qb) (bCons g gs)) := PA_mono (pa_cons ha hb hs) fun σ H Q ⟨P, F, A, ρ, ds, ρ', G, e, k⟩ => by
  obtain ⟨⟨t, ρ1⟩, e1, e2⟩ := Option.bind_eq_some_iff.mp (show ((kp g ρ).bind _) = some (ds, ρ') from e)
  obtain ⟨⟨ts, ρ2⟩, e3, e4⟩ := Option.map_eq_some_iff.mp e2
  injection e4 with e5 e6
  subst e5 e6
  refine kp_tr G e1 fun F1 A1 H1 v S G1 E1 o nd d n => ?_
  refine ⟨P, F1, A1, ρ1, ts, ρ2, G1, e3, fun F2 A2 H2 vs S2 G2 E2 o2 nd2 d2 n2 => ?_⟩
  have kk : ∀ a ∈ S, F2 a = none ∧ H2 a = H1 a ∧ (∀ i, a ∉ A2 i) ∧ a ∉ S2 := fun a m => by
    obtain ⟨f, u, e⟩ := Ow.inS t v S o a m
    have nn := not_nw e (d a m)
    obtain ⟨h2, f2, k2⟩ := E2.frm a nn
    exact ⟨f2.trans f, h2, k2, fun m2 => nn (n2 a m2)⟩
  refine k F2 A2 H2 (v :: vs) (S ++ S2) G2 (E1.trans E2) (.cons (Ow.mono E2.sF _ _ _ (fun a m => ⟨(kk a m).1, (kk a m).2.1⟩) o) o2) (List.nodup_append.mpr ⟨nd, nd2, fun a m b m' z => ?_⟩) (fun a m => ?_) (fun a m => ?_)
  · subst z
    exact (kk a m).2.2.2 m'
  · rcases List.mem_append.mp m with m | m
    · exact (kk a m).2.2.1
    · exact d2 a m
  · rcases List.mem_append.mp m with m | m
    · exact n a m
    · exact E1.nw' (n2 a m)
def eTupK (gs : M (List T)) : M R := fun ρ => (gs ρ).bind fun x => if lineOk x.1 then some (.val (.tup x.1), x.2) else none
def eLstK (gs : M (List T)) : M R := fun ρ => (gs ρ).bind fun x => if lineOk x.1 then some (.val (.lst x.1), x.2) else none
variable {hs : M (List T)}
theorem keep_new {p : Addr} {o : HO} {vs : List V} {ts : List T} {S : List Addr} (G : Good K P F1 A1 ρ σ H1) (E : Ext q F A H F1 A1 H1) (hp : H1 p = none) (oa : OwAll K F1 H1 vs ts S) (nd : S.Nodup) (d : ∀ a ∈ S, ∀ i, a ∉ A1 i) (n : ∀ a ∈ S, Nw A H a)
    (mk : ∀ H' : Hp, H' p = some o → OwAll K F1 H' vs ts S → Ow K F1 H' (.ref p) t (p :: S)) : Good K P F1 A1 ρ σ (upd H1 p o) ∧ Ext q F A H F1 A1 (upd H1 p o) ∧ Rx K (Nw A H) F1 A1 σ (upd H1 p o) (.ref p) (.val t) := by
  have g := Grow.new (o := o) G.same hp
  have np : ∀ a ∈ S, a ≠ p := fun a m z => by
    subst z
    obtain ⟨_, u, e⟩ := OwAll.inS ts vs S oa a m
    rw [hp] at e; cases e
  refine ⟨G.grow g, (E.trans (g.ext (q := true))).le (by simp), p :: S, mk _ upd_same (OwAll.mono (Same.refl F1) _ _ _ (fun a m => ⟨(OwAll.inS ts vs S oa a m).1, upd_ne (np a m)⟩) oa), List.nodup_cons.mpr ⟨fun m => np p m rfl, nd⟩, fun a m i m' => ?_, fun a m => ?_⟩
  · rcases List.mem_cons.mp m with z | m
    · subst z
      obtain ⟨_, u, e⟩ := G.noF i a m'
      rw [hp] at e; cases e
    · exact d a m i m'
  · rcases List.mem_cons.mp m with z | m
    · subst z
      exact E.nw' (.inl hp)
    · exact n a m
theorem e_tupK {x1} (h : PA X es (tB X.K q hs)) : PE X (.Tuple es x1 pos) (tE X.K q (eTupK hs)) := PE_mono (pe_tup h) fun σ H Q ⟨P, F, A, ρ, r, ρ', G, e, k⟩ => by
  obtain ⟨⟨ts, ρ1⟩, e1, e2⟩ := Option.bind_eq_some_iff.mp (show ((hs ρ).bind _) = some (r, ρ') from e)
  have e2 : (if lineOk ts then some (R.val (.tup ts), ρ1) else none) = some (r, ρ') := e2
  split at e2
  · rename_i hl
    injection e2 with e2
    injection e2 with e3 e4
    subst e3 e4
    refine ⟨P, F, A, ρ, ts, ρ1, G, e1, fun F1 A1 H1 vs S G1 E1 oa nd d n => ⟨by rw [OwAll.length oa]; exact of_decide_eq_true hl, fun p hp => ?_⟩⟩
    obtain ⟨a, b, c⟩ := keep_new (o := .tup vs) (t := .tup ts) G1 E1 hp oa nd d n fun H' h o' => .tup (G1.same.free hp) h o'
    exact k _ _ _ _ a b c
  · cases e2
theorem e_lstK (h : PA X es (tB X.K q hs)) : PE X (.List es pos) (tE X.K q (eLstK hs)) := PE_mono (pe_lst h) fun σ H Q ⟨P, F, A, ρ, r, ρ', G, e, k⟩ => by
  obtain ⟨⟨ts, ρ1⟩, e1, e2⟩ := Option.bind_eq_some_iff.mp (show ((hs ρ).bind _) = some (r, ρ') from e)
  have e2 : (if lineOk ts then some (R.val (.lst ts), ρ1) else none) = some (r, ρ') := e2
  split at e2
  · rename_i hl
    injection e2 with e2
    injection e2 with e3 e4
    subst e3 e4
    refine ⟨P, F, A, ρ, ts, ρ1, G, e1, fun F1 A1 H1 vs S G1 E1 oa nd d n => ⟨by rw [OwAll.length oa]; exact of_decide_eq_true hl, fun p hp => ?_⟩⟩
    obtain ⟨a, b, c⟩ := keep_new (o := .lst vs) (t := .lst ts) G1 E1 hp oa nd d n fun H' h o' => .lst (G1.same.free hp) h o'
    exact k _ _ _ _ a b c
  · cases e2

/-! ### tests -/
def cOf (g : M R) : M Bool := fun ρ => (g ρ).bind fun x => (look x.2 x.1).bind fun t => t.asBool.map fun b => (b, x.2)
theorem cOf_tr {g : M R} {F A H ρ σ P b ρ'} {Q : Bool → Hp → Prop} (G : Good K P F A ρ σ H) (e : cOf g ρ = some (b, ρ')) (k : ∀ F' A' H', Good K P F' A' ρ' σ H' → Ext q F A H F' A' H' → Q b H') :
    tE K q g σ H fun x H1 => ∃ c, x = .bl c ∧ Q c H1 := by
  obtain ⟨⟨x, ρ1⟩, e1, e2⟩ := Option.bind_eq_some_iff.mp (show ((g ρ).bind _) = some (b, ρ') from e)
  obtain ⟨t, e3, e4⟩ := Option.bind_eq_some_iff.mp e2
  obtain ⟨c, e5, e6⟩ := Option.map_eq_some_iff.mp e4
  injection e6 with e7 e8
  subst e7 e8
  exact ⟨P, F, A, ρ, x, ρ1, G, e1, fun F1 A1 H1 v G1 E1 R1 => ⟨c, (R1.look G1 e3).asBool e5, k F1 A1 H1 G1 E1⟩⟩
theorem t_val {e : Expr} {g : M R} (h : PE X e (tE X.K q g)) (he : ∀ whole, isTrue e X.env whole = (do let v ← whole; standAt e.pos; holding [v] (truthy v)) := by intro _; rfl) : PT X e (tT X.K q (cOf g)) :=
  PT_mono (pt_val h he) fun σ H Q ⟨P, F, A, ρ, b, ρ', G, e, k⟩ => cOf_tr G e k
variable {a b : Expr} {ga gb : M R} {qa qb : Bool} {f : T → T → Option T}
theorem t_cmp {op : CmpOp} (ho : OpR X (compareOp op) (rT2 X.K f)) (ha : PE X a (tE X.K qa ga)) (hb : PE X b (tE X.K qb gb)) (hm : behindInMarks op b = false) : PT X (.Compare a [op] [b] pos) (tT X.K (qa && qb) (cOf (bin qb f ga gb))) :=
  PT_mono (pt_cmpR ho ha hb hm) fun σ H Q ⟨P, F, A, ρ, b, ρ', G, e, k⟩ =>
    bin_tr (fun _ _ _ _ h => h) (fun _ _ _ h => h) (fun _ _ _ h => h) σ H _ (cOf_tr G e k)
def truthD : PyData → Option Bool
  | .none => some false
  | .bool b => some b
  | .int i => some (i != 0)
  | .str y => if y.length ≤ sizeLine then some ((y.length : Int) != 0) else none
  | .list ds => some (!ds.isEmpty)
  | .tuple ds => some (!ds.isEmpty)
  | .dict _ => none
def truth : T → Option Bool
  | .fr d => truthD d
  | .lst ts => some (!ts.isEmpty)
  | .tup ts => some (!ts.isEmpty)
  | .dic ks _ => some (!ks.isEmpty)
  | .scr ds => some (!ds.isEmpty)
theorem isEmpty_len {α β : Type} {xs : List α} {ys : List β} (h : xs.length = ys.length) : (!xs.isEmpty) = (!ys.isEmpty) := by
  cases xs <;> cases ys <;> simp_all
theorem truth_ok {v : V} {t : T} {c : Bool} (s : Same F H) (h : Rd K F H v t) (e : truth t = some c) : TruV K v H c := by
  cases t with
  | fr d =>
    have e : truthD d = some c := e
    have hd := h.fr
    cases d with
    | none => cases hd; exact (Option.some.inj e).symm
    | bool b => cases hd; exact (Option.some.inj e).symm
    | int i => cases hd; exact (Option.some.inj e).symm
    | str y =>
      cases hd
      have e : (if y.length ≤ sizeLine then some ((y.length : Int) != 0) else Option.none) = some c := e
      split at e
      · rename_i hl; exact ⟨hl, (Option.some.inj e).symm⟩
      · cases e
    | list ds =>
      cases hd with
      | lst a b => exact .inl ⟨_, .of (s _ _ a), by rw [← Option.some.inj (show some (!ds.isEmpty) = some c from e)]; exact (isEmpty_len (DpAll.length b)).symm⟩
    | tuple ds =>
      cases hd with
      | tup a b => exact .inr (.inl ⟨_, SqT.same s a, by rw [← Option.some.inj (show some (!ds.isEmpty) = some c from e)]; exact (isEmpty_len (DpAll.length b)).symm⟩)
    | dict _ => cases e
  | lst ts =>
    obtain ⟨S, o⟩ := h
    cases o with
    | lst a b d => exact .inl ⟨_, .of b, by rw [← Option.some.inj (show some (!ts.isEmpty) = some c from e)]; exact (isEmpty_len (OwAll.length d)).symm⟩
  | tup ts =>
    obtain ⟨S, o⟩ := h
    cases o with
    | tup a b d => exact .inr (.inl ⟨_, .of b, by rw [← Option.some.inj (show some (!ts.isEmpty) = some c from e)]; exact (isEmpty_len (OwAll.length d)).symm⟩)
  | scr ds =>
    obtain ⟨S, o⟩ := h
    cases o with
    | scr a b => exact .inl ⟨_, s.seq a, by rw [← Option.some.inj (show some (!ds.isEmpty) = some c from e)]; exact (isEmpty_len (DpAll.length b)).symm⟩
  | dic ks ts =>
    obtain ⟨S, o⟩ := h
    cases o with
    | dic a b hz d => exact .inr (.inr ⟨_, b, by rw [← Option.some.inj (show some (!ks.isEmpty) = some c from e)]; exact isEmpty_len (by simp [hz])⟩)
def cTru (g : M R) : M Bool := fun ρ => (g ρ).bind fun x => (look x.2 x.1).bind fun t => (truth t).map fun b => (b, x.2)
theorem t_truth {e : Expr} {g : M R} (h : PE X e (tE X.K q g)) (he : ∀ whole, isTrue e X.env whole = (do let v ← whole; standAt e.pos; holding [v] (truthy v)) := by intro _; rfl) : PT X e (tT X.K q (cTru g)) :=
  PT_mono (pt_truth h he) fun σ H Q ⟨P, F, A, ρ, b, ρ', G, e, k⟩ => by
    obtain ⟨⟨x, ρ1⟩, e1, e2⟩ := Option.bind_eq_some_iff.mp (show ((g ρ).bind _) = some (b, ρ') from e)
    obtain ⟨t, e3, e4⟩ := Option.bind_eq_some_iff.mp e2
    obtain ⟨c, e5, e6⟩ := Option.map_eq_some_iff.mp e4
    injection e6 with e7 e8
    subst e7 e8
    exact ⟨P, F, A, ρ, x, ρ1, G, e1, fun F1 A1 H1 v G1 E1 R1 => ⟨c, truth_ok G1.same (R1.look G1 e3) e5, k F1 A1 H1 G1 E1⟩⟩
theorem PW_mono {e : Expr} {t t' : TT} (h : PW X e t) (m : ∀ σ H Q, t' σ H Q → t σ H Q) : PW X e t' :=
  ⟨fun wh pins s σ H Q I w => h.run wh pins s σ H Q I (m σ H Q w)⟩
def cAnd (c d : M Bool) : M Bool := fun ρ => (c ρ).bind fun x => if x.1 then d x.2 else some (false, x.2)
def cOr (c d : M Bool) : M Bool := fun ρ => (c ρ).bind fun x => if x.1 then some (true, x.2) else d x.2
def cNot (c : M Bool) : M Bool := fun ρ => (c ρ).map fun x => (!x.1, x.2)
variable {c d : M Bool} {rest : List Expr}
theorem w_and1 (ha : PT X a (tT X.K qa c)) : PW X (.BoolOp .And [a] pos) (tT X.K qa c) := pw_and1 ha
theorem w_or1 (ha : PT X a (tT X.K qa c)) : PW X (.BoolOp .Or [a] pos) (tT X.K qa c) := pw_or1 ha
theorem w_and (ha : PT X a (tT X.K qa c)) (hb : PW X (.BoolOp .And (b :: rest) pos) (tT X.K qb d)) : PW X (.BoolOp .And (a :: b :: rest) pos) (tT X.K (qa && qb) (cAnd c d)) :=
  PW_mono (pw_and ha hb) fun σ H Q ⟨P, F, A, ρ, r, ρ', G, e, k⟩ => by
    obtain ⟨⟨x, ρ1⟩, e1, e2⟩ := Option.bind_eq_some_iff.mp (show ((c ρ).bind _) = some (r, ρ') from e)
    refine ⟨P, F, A, ρ, x, ρ1, G, e1, fun F1 A1 H1 G1 E1 => ?_⟩
    cases x with
    | true =>
      rw [if_pos rfl]
      exact ⟨P, F1, A1, ρ1, r, ρ', G1, e2, fun F2 A2 H2 G2 E2 => k F2 A2 H2 G2 (E1.trans E2)⟩
    | false =>
      injection (show some (false, ρ1) = some (r, ρ') from e2) with e2
      injection e2 with e3 e4
      subst e3 e4
      rw [if_neg Bool.false_ne_true]
      exact k F1 A1 H1 G1 (E1.le fun h => (Bool.and_eq_true_iff.mp h).1)
theorem w_or (ha : PT X a (tT X.K qa c)) (hb : PW X (.BoolOp .Or (b :: rest) pos) (tT X.K qb d)) : PW X (.BoolOp .Or (a :: b :: rest) pos) (tT X.K (qa && qb) (cOr c d)) :=
  PW_mono (pw_or ha hb) fun σ H Q ⟨P, F, A, ρ, r, ρ', G, e, k⟩ => by
    obtain ⟨⟨x, ρ1⟩, e1, e2⟩ := Option.bind_eq_some_iff.mp (show ((c ρ).bind _) = some (r, ρ') from e)
    refine ⟨P, F, A, ρ, x, ρ1, G, e1, fun F1 A1 H1 G1 E1 => ?_⟩
    cases x with
    | true =>
      injection (show some (true, ρ1) = some (r, ρ') from e2) with e2
      injection e2 with e3 e4
      subst e3 e4
      rw [if_pos rfl]
      exact k F1 A1 H1 G1 (E1.le fun h => (Bool.and_eq_true_iff.mp h).1)
    | false =>
      rw [if_neg Bool.false_ne_true]
      exact ⟨P, F1, A1, ρ1, r, ρ', G1, e2, fun F2 A2 H2 G2 E2 => k F2 A2 H2 G2 (E1.trans E2)⟩
theorem t_w {e : Expr} (h : PW X e (tT X.K q c)) : PT X e (tT X.K q c) := h.pt
theorem t_not (ha : PT X a (tT X.K qa c)) : PT X (.UnaryOp .Not a pos) (tT X.K qa (cNot c)) := PT_mono (pt_not ha) fun σ H Q ⟨P, F, A, ρ, r, ρ', G, e, k⟩ => by
  obtain ⟨⟨x, ρ1⟩, e1, e2⟩ := Option.map_eq_some_iff.mp (show (c ρ).map (fun x => (!x.1, x.2)) = some (r, ρ') from e)
  injection e2 with e3 e4
  subst e3 e4
  exact ⟨P, F, A, ρ, x, ρ1, G, e1, fun F1 A1 H1 G1 E1 => k F1 A1 H1 G1 E1⟩
/-- and, or, not as values: all parts but the last are bools -/
def vAnd (c : M R) (g : M R) : M R := fun ρ => (cOf c ρ).bind fun x => if x.1 then g x.2 else some (.val (.fr (.bool false)), x.2)
def vOr (c : M R) (g : M R) : M R := fun ρ => (cOf c ρ).bind fun x => if x.1 then some (.val (.fr (.bool true)), x.2) else g x.2
def vNot (c : M Bool) : M R := fun ρ => (c ρ).map fun x => (.val (.fr (.bool (!x.1))), x.2)
theorem v_one {op} {g : M R} (h : PE X a (tE X.K q g)) : PE X (.BoolOp op [a] pos) (tE X.K q g) := pe_one h
theorem v_and (ha : PE X a (tE X.K qa ga)) (hb : PE X (.BoolOp .And (b :: rest) pos) (tE X.K qb gb)) : PE X (.BoolOp .And (a :: b :: rest) pos) (tE X.K (qa && qb) (vAnd ga gb)) :=
  PE_mono (pe_and ha hb) fun σ H Q ⟨P, F, A, ρ, r, ρ', G, e, k⟩ => by
    obtain ⟨⟨x, ρ1⟩, e1, e2⟩ := Option.bind_eq_some_iff.mp (show ((cOf ga ρ).bind _) = some (r, ρ') from e)
    refine cOf_tr (Q := fun c H1 => if c = true then tE X.K qb gb σ H1 Q else Q (.bl false) H1) G e1 fun F1 A1 H1 G1 E1 => ?_
    cases x with
    | true =>
      rw [if_pos rfl]
      exact ⟨P, F1, A1, ρ1, r, ρ', G1, e2, fun F2 A2 H2 v G2 E2 R2 => k F2 A2 H2 v G2 (E1.trans E2) (R2.le fun a m => E1.nw' m)⟩
    | false =>
      injection (show some (R.val (.fr (.bool false)), ρ1) = some (r, ρ') from e2) with e2
      injection e2 with e3 e4
      subst e3 e4
      rw [if_neg Bool.false_ne_true]
      exact k F1 A1 H1 _ G1 (E1.le fun h => (Bool.and_eq_true_iff.mp h).1) (Rx.val_fr (.bl _))
theorem v_or (ha : PE X a (tE X.K qa ga)) (hb : PE X (.BoolOp .Or (b :: rest) pos) (tE X.K qb gb)) : PE X (.BoolOp .Or (a :: b :: rest) pos) (tE X.K (qa && qb) (vOr ga gb)) :=
  PE_mono (pe_or ha hb) fun σ H Q ⟨P, F, A, ρ, r, ρ', G, e, k⟩ => by
    obtain ⟨⟨x, ρ1⟩, e1, e2⟩ := Option.bind_eq_some_iff.mp (show ((cOf ga ρ).bind _) = some (r, ρ') from e)
    refine cOf_tr (Q := fun c H1 => if c = true then Q (.bl true) H1 else tE X.K qb gb σ H1 Q) G e1 fun F1 A1 H1 G1 E1 => ?_
    cases x with
    | true =>
      injection (show some (R.val (.fr (.bool true)), ρ1) = some (r, ρ') from e2) with e2
      injection e2 with e3 e4
      subst e3 e4
      rw [if_pos rfl]
      exact k F1 A1 H1 _ G1 (E1.le fun h => (Bool.and_eq_true_iff.mp h).1) (Rx.val_fr (.bl _))
    | false =>
      rw [if_neg Bool.false_ne_true]
      exact ⟨P, F1, A1, ρ1, r, ρ', G1, e2, fun F2 A2 H2 v G2 E2 R2 => k F2 A2 H2 v G2 (E1.trans E2) (R2.le fun a m => E1.nw' m)⟩
theorem v_not (ha : PE X a (tE X.K qa ga)) : PE X (.UnaryOp .Not a pos) (tE X.K qa (vNot (cOf ga))) := PE_mono (pe_not ha) fun σ H Q ⟨P, F, A, ρ, r, ρ', G, e, k⟩ => by
  obtain ⟨⟨x, ρ1⟩, e1, e2⟩ := Option.map_eq_some_iff.mp (show (cOf ga ρ).map _ = some (r, ρ') from e)
  injection e2 with e3 e4
  subst e3 e4
  exact cOf_tr (Q := fun c H1 => Q (.bl (!c)) H1) G e1 fun F1 A1 H1 G1 E1 => k F1 A1 H1 _ G1 E1 (Rx.val_fr (.bl _))
/-- a if t else b -/
def eIf (c : M Bool) (ga gb : M R) : M R := fun ρ => (c ρ).bind fun x => if x.1 then ga x.2 else gb x.2
theorem e_if {t : Expr} {qc : Bool} (hc : PT X t (tT X.K qc c)) (ha : PE X a (tE X.K qa ga)) (hb : PE X b (tE X.K qb gb)) : PE X (.IfExp t a b pos) (tE X.K (qc && (qa && qb)) (eIf c ga gb)) :=
  PE_mono (pe_ifExp hc ha hb) fun σ H Q ⟨P, F, A, ρ, r, ρ', G, e, k⟩ => by
    obtain ⟨⟨x, ρ1⟩, e1, e2⟩ := Option.bind_eq_some_iff.mp (show ((c ρ).bind _) = some (r, ρ') from e)
    refine ⟨P, F, A, ρ, x, ρ1, G, e1, fun F1 A1 H1 G1 E1 => ?_⟩
    cases x with
    | true =>
      rw [if_pos rfl]
      exact ⟨P, F1, A1, ρ1, r, ρ', G1, e2, fun F2 A2 H2 v G2 E2 R2 => k F2 A2 H2 v G2 ((E1.trans E2).le fun h => by simp at h; simp [h]) (R2.le fun a m => E1.nw' m)⟩
    | false =>
      rw [if_neg Bool.false_ne_true]
      exact ⟨P, F1, A1, ρ1, r, ρ', G1, e2, fun F2 A2 H2 v G2 E2 R2 => k F2 A2 H2 v G2 ((E1.trans E2).le fun h => by simp at h; simp [h]) (R2.le fun a m => E1.nw' m)⟩
end
end DL

/-! DL4: built-ins by values, methods, statements, defs. -/
namespace DL
open PySem PySem.Spec PyProof.Rows L2
section
variable {K : PySem.W.Frag} {P : Gh} {F F' F1 F2 H H' H1 H2 : Hp} {A A' A1 A2 : Nat → List Addr} {ρ ρ' ρ1 ρ2 : MS} {σ σ' : L2.St} {q qa qb : Bool} {X : Cx} {pos : Pos}
/-- behind a rule by values: some new thing -/
def Got (K : PySem.W.Frag) (F H : Hp) (r : T) (Q : VK) : Prop := ∀ F' H' v S, Grow F H F' H' → Ow K F' H' v r S → S.Nodup → (∀ a ∈ S, H a = none) → Q v H'
theorem Got.fr {r : PyData} {Q : VK} {v : V} (s : Same F H) (h : Got K F H (.fr r) Q) (hd : Dp K F v r) : Q v H := h F H v [] (Grow.refl s) (.fr hd) List.nodup_nil (fun _ m => nomatch m)
theorem Got.int {i : Int} {Q : VK} (s : Same F H) (h : Got K F H (.fr (.int i)) Q) : Q (.int i) H := h.fr s (.int i)
theorem Got.bool {i : Bool} {Q : VK} (s : Same F H) (h : Got K F H (.fr (.bool i)) Q) : Q (.bl i) H := h.fr s (.bl i)
theorem Got.str {i : Str} {Q : VK} (s : Same F H) (h : Got K F H (.fr (.str i)) Q) : Q (.str i) H := h.fr s (.str i)
theorem Got.none {Q : VK} (s : Same F H) (h : Got K F H (.fr .none) Q) : Q .non H := h.fr s .non
/-- a new list of frozen items -/
theorem Got.lst {ds : List PyData} {Q : VK} {xs : List V} (s : Same F H) (h : Got K F H (.lst (ds.map T.fr)) Q) (hd : DpAll K F xs ds) : ∀ p, H p = Option.none → Q (.ref p) (upd H p (.lst xs)) := fun p hp =>
  h F _ (.ref p) [p] (Grow.new s hp) (.lst (S := []) (s.free hp) upd_same (OwAll.frs hd)) (by simp) (fun a m => (show a = p by simpa using m) ▸ hp)
/-- a new tuple of frozen items -/
theorem Got.tup {ds : List PyData} {Q : VK} {xs : List V} (s : Same F H) (h : Got K F H (.fr (.tuple ds)) Q) (hd : DpAll K F xs ds) : ∀ p, H p = Option.none → Q (.ref p) (upd H p (.tup xs)) := fun p hp => by
  have g := Grow.newF (o := .tup xs) s hp
  exact h _ _ (.ref p) [] g (.fr (.tup (.of upd_same) (DpAll.mono g.sF _ _ hd))) List.nodup_nil (fun _ m => nomatch m)
def rTs (K : PySem.W.Frag) (f : List PyData → Option T) : List V → Hp → VK → Prop := fun vs H Q => ∃ F ds r, Same F H ∧ DpAll K F vs ds ∧ f ds = some r ∧ Got K F H r Q
def rT11 (K : PySem.W.Frag) (f : T → Option T) : List V → Hp → VK → Prop := fun vs H Q => ∃ x, vs = [x] ∧ rT1 K f x H Q
def rMt (K : PySem.W.Frag) (f : T → List PyData → Option T) : V → List V → Hp → VK → Prop := fun x vs H Q => ∃ F t ds r, Same F H ∧ Rd K F H x t ∧ DpAll K F vs ds ∧ f t ds = some r ∧ Got K F H r Q
def eCall (f : List PyData → Option T) (gs : M (List PyData)) : M R := fun ρ => (gs ρ).bind fun x => (f x.1).map fun r => (.val r, x.2)
variable {e : Expr} {es : List Expr} {x : Str} {p : Pos} {id T' : String} {g ga gb : M R} {gs : M (List PyData)} {f : List PyData → Option T} {f1 : T → Option T}
theorem call_tr {r : List V → Hp → VK → Prop} (hr : ∀ vs H Q, rTs K f vs H Q → r vs H Q) : ∀ σ H Q, tE K q (eCall f gs) σ H Q → tA K q gs σ H (fun vs H1 => r vs H1 Q) := fun σ H Q ⟨P, F, A, ρ, r0, ρ', G, e, k⟩ => by
  obtain ⟨⟨ds, ρ1⟩, e1, e2⟩ := Option.bind_eq_some_iff.mp (show ((gs ρ).bind _) = some (r0, ρ') from e)
  obtain ⟨z, e3, e4⟩ := Option.map_eq_some_iff.mp e2
  injection e4 with e5 e6
  subst e5 e6
  exact ⟨P, F, A, ρ, ds, ρ1, G, e1, fun F1 A1 H1 vs G1 E1 d1 => hr _ _ _ ⟨F1, ds, z, G1.same, d1, e3, fun F2 H2 v S g o nd n => k F2 A1 H2 v (G1.grow g) ((E1.trans (g.ext (q := true))).le (by simp)) ((G1.newRx o nd n).le fun a m => E1.nw' m)⟩⟩
theorem e_callB (hc : CallR X (.builtin id) (rTs X.K f)) (hg : Gl X x) (hm : X.mg x = none) (hv : bootBuiltins x = some (.builtin id)) (ha : PA X (e :: es) (tA X.K q gs)) (hn : x ≠ "__name__" := by decide) (hdb : (x == ("__debug__" : Str)) = false := by decide)
    (he : starEach (e :: es) X.env = (false, eval e X.env) :: starEach es X.env := by rfl) (hpl : (backTo pos (starEach es X.env)).any (·.1) = false := by rfl) : PE X (.Call (.Name x p) (e :: es) [] pos) (tE X.K q (eCall f gs)) :=
  PE_mono (pe_callB hc hg hm hv ha hn hdb he hpl) (call_tr fun _ _ _ h => h)
theorem e_callTy (hc : CallR X (.type T') (rTs X.K f)) (hg : Gl X x) (hm : X.mg x = none) (hv : bootBuiltins x = some (.type T')) (ha : PA X (e :: es) (tA X.K q gs)) (hn : x ≠ "__name__" := by decide) (hdb : (x == ("__debug__" : Str)) = false := by decide)
    (he : starEach (e :: es) X.env = (false, eval e X.env) :: starEach es X.env := by rfl) (hpl : (backTo pos (starEach es X.env)).any (·.1) = false := by rfl) : PE X (.Call (.Name x p) (e :: es) [] pos) (tE X.K q (eCall f gs)) :=
  PE_mono (pe_callTy hc hg hm hv ha hn hdb he hpl) (call_tr fun _ _ _ h => h)
/-- one argument, read where it stands -/
theorem e_callB1 (hc : CallR X (.builtin id) (rT11 X.K f1)) (hg : Gl X x) (hm : X.mg x = none) (hv : bootBuiltins x = some (.builtin id)) (ha : PE X e (tE X.K q g)) (hn : x ≠ "__name__" := by decide) (hdb : (x == ("__debug__" : Str)) = false := by decide)
    (hs : starEach [e] X.env = (false, eval e X.env) :: starEach [] X.env := by rfl) (hpl : (backTo pos (starEach [] X.env)).any (·.1) = false := by rfl) : PE X (.Call (.Name x p) [e] [] pos) (tE X.K q (un f1 g)) :=
  PE_mono (pe_callB hc hg hm hv (pa_cons ha pa_nil hs) hn hdb hs hpl) fun σ H Q h => un_tr (r := fun x H1 Q => rT11 X.K f1 [x] H1 Q) (fun x H Q h => ⟨x, rfl, h⟩) σ H Q h
theorem e_callTy1 (hc : CallR X (.type T') (rT11 X.K f1)) (hg : Gl X x) (hm : X.mg x = none) (hv : bootBuiltins x = some (.type T')) (ha : PE X e (tE X.K q g)) (hn : x ≠ "__name__" := by decide) (hdb : (x == ("__debug__" : Str)) = false := by decide)
    (hs : starEach [e] X.env = (false, eval e X.env) :: starEach [] X.env := by rfl) (hpl : (backTo pos (starEach [] X.env)).any (·.1) = false := by rfl) : PE X (.Call (.Name x p) [e] [] pos) (tE X.K q (un f1 g)) :=
  PE_mono (pe_callTy hc hg hm hv (pa_cons ha pa_nil hs) hn hdb hs hpl) fun σ H Q h => un_tr (r := fun x H1 Q => rT11 X.K f1 [x] H1 Q) (fun x H Q h => ⟨x, rfl, h⟩) σ H Q h

/-! ### methods that change nothing -/
def tyT : String → T → Bool
  | "str", .fr (.str _) => true
  | "list", .lst _ => true
  | "list", .fr (.list _) => true
  | "tuple", .fr (.tuple _) => true
  | "dict", .dic _ _ => true
  | _, _ => false
variable {o : Expr} {name : Str} {apos cpos : Pos} {fm : T → List PyData → Option T}
def meth (ty : String) (qs : Bool) (fm : T → List PyData → Option T) (g : M R) (gs : M (List PyData)) : M R := fun ρ => (g ρ).bind fun x => (look x.2 x.1).bind fun t0 => if tyT ty t0 = true then
  (gs x.2).bind fun y => if x.1.waits qs = true then (look y.2 x.1).bind fun t => (fm t y.1).map fun r => (.val r, y.2) else none else none
theorem meth_tr {qs : Bool} {ta : TA} (hty : ∀ F H v t, Same F H → Rd K F H v t → tyT T' t = true → tyV K T' v H) (ha : ∀ σ H Q, tA K qs gs σ H Q → ta σ H Q) :
    ∀ σ H Q, tE K (q && qs) (meth T' qs fm g gs) σ H Q → tE K q g σ H fun x H1 => tyV K T' x H1 ∧ ta σ H1 fun xs H2 => rMt K fm x xs H2 Q := fun σ H Q ⟨P, F, A, ρ, r0, ρ', G, e, k⟩ => by
  obtain ⟨⟨x, ρ1⟩, e1, e2⟩ := Option.bind_eq_some_iff.mp (show ((g ρ).bind _) = some (r0, ρ') from e)
  obtain ⟨t0, e3, e4⟩ := Option.bind_eq_some_iff.mp e2
  split at e4
  · rename_i ty
    obtain ⟨⟨ds, ρ2⟩, e5, e6⟩ := Option.bind_eq_some_iff.mp e4
    split at e6
    · rename_i w
      obtain ⟨t, e7, e8⟩ := Option.bind_eq_some_iff.mp e6
      obtain ⟨z, e9, e10⟩ := Option.map_eq_some_iff.mp e8
      injection e10 with e11 e12
      subst e11 e12
      refine ⟨P, F, A, ρ, x, ρ1, G, e1, fun F1 A1 H1 v1 G1 E1 R1 => ⟨hty F1 H1 v1 t0 G1.same (R1.look G1 e3) ty, ?_⟩⟩
      refine ha _ _ _ ⟨P, F1, A1, ρ1, ds, ρ2, G1, e5, fun F2 A2 H2 vs G2 E2 d2 => ?_⟩
      exact ⟨F2, t, ds, z, G2.same, (R1.wait E2 w).look G2 e7, d2, e9, fun F3 H3 v S g o nd n => k F3 A2 H3 v (G2.grow g) (((E1.trans E2).trans (g.ext (q := true))).le (by simp)) ((G2.newRx o nd n).le fun a m => (E1.trans E2).nw' m)⟩
    · cases e6
  · cases e4
theorem e_meth {qs : Bool} (pa : PlainAttrs T') (slot : Slot T' name id) (hty : typeOf (.builtin id) = pure (.type "method_descriptor")) (hT : ∀ F H v t, Same F H → Rd X.K F H v t → tyT T' t = true → tyV X.K T' v H) (hm : MtR X id (rMt X.K fm)) (ho : PE X o (tE X.K q g)) (ha : PA X (e :: es) (tA X.K qs gs))
    (hbase : attributeBase o name X.env (eval o X.env) = eval o X.env := by rfl)
    (hfew : ((backTo cpos (starEach (e :: es) X.env)).all (fun x => !x.1) && (backToKw cpos (keywordEach [] X.env)).all (fun x => x.1.isSome)
      && decide ((e :: es).length + ([] : List Keyword).length + (if ([] : List Keyword).isEmpty then 0 else 1) < 30)) = true := by rfl)
    (hline : (apos.endLine == cpos.line) = true := by rfl) (hs : starEach (e :: es) X.env = (false, eval e X.env) :: starEach es X.env := by rfl) (hplain : (backTo cpos (starEach es X.env)).any (·.1) = false := by rfl) :
    PE X (.Call (.Attribute o name apos) (e :: es) [] cpos) (tE X.K (q && qs) (meth T' qs fm g gs)) :=
  PE_mono (pe_bm pa slot hty hm ho ha hbase hfew hline hs hplain) (meth_tr hT fun _ _ _ h => h)
theorem e_meth0 (pa : PlainAttrs T') (slot : Slot T' name id) (hty : typeOf (.builtin id) = pure (.type "method_descriptor")) (hT : ∀ F H v t, Same F H → Rd X.K F H v t → tyT T' t = true → tyV X.K T' v H) (hm : MtR X id (rMt X.K fm)) (ho : PE X o (tE X.K q g))
    (hbase : attributeBase o name X.env (eval o X.env) = eval o X.env := by rfl) (hline : (apos.endLine == cpos.line) = true := by rfl) : PE X (.Call (.Attribute o name apos) [] [] cpos) (tE X.K (q && true) (meth T' true fm g aNil)) :=
  PE_mono (pe_bm0 pa slot hty hm ho hbase hline) fun σ H Q h => by
    have h' := meth_tr (q := q) (g := g) (K := X.K) (ta := fun _ H1 Q => Q [] H1) hT (fun σ H Q h => by
      obtain ⟨P, F, A, ρ, ds, ρ', G, e, k⟩ := h
      injection (show some (([] : List PyData), ρ) = some (ds, ρ') from e) with e
      injection e with e1 e2
      subst e1 e2
      exact k F A H [] G Ext.refl .nil) σ H Q h
    exact h'
theorem ty_str : ∀ F H v t, Same F H → Rd K F H v t → tyT "str" t = true → tyV K "str" v H := fun F H v t s h e => by
  unfold tyT at e
  split at e
  · rw [h.str]; rfl
  all_goals first | (exfalso; simp_all; done) | skip
  all_goals cases e
theorem ty_list : ∀ F H v t, Same F H → Rd K F H v t → tyT "list" t = true → tyV K "list" v H := fun F H v t s h e => by
  have q : t.kids.isSome = true ∨ True := .inr trivial
  cases t with
  | fr d =>
    cases d with
    | list ds =>
      cases h.fr with
      | lst a b => exact .inl ⟨rfl, _, .of (s _ _ a)⟩
    | _ => simp [tyT] at e
  | lst ts =>
    obtain ⟨S, o⟩ := h
    cases o with
    | lst a b c => exact .inl ⟨rfl, _, .of b⟩
  | tup ts => simp [tyT] at e
  | dic ks ts => simp [tyT] at e
  | scr _ => simp [tyT] at e

/-! ### methods that change the list they are called on -/
def rMut (K : PySem.W.Frag) (f : T → List T → Option (T × T)) : V → List V → Hp → VK → Prop := fun x vs H Q => ∃ F t us S Su t' r, Same F H ∧ Ow K F H x t S ∧ OwAll K F H vs us Su ∧ (S ++ Su).Nodup ∧ f t us = some (t', r) ∧
  ∀ H' v S' Sr, (∀ a o, a ∉ S ++ Su → H a = some o → H' a = some o) → Ow K F H' x t' S' → Ow K F H' v r Sr → (S' ++ Sr).Nodup → (∀ a ∈ S' ++ Sr, a ∈ S ++ Su) → Q v H'
def mutM (ty : String) (qs : Bool) (f : T → List T → Option (T × T)) (g : M R) (gs : M (List T)) : M R := fun ρ => (g ρ).bind fun x => (look x.2 x.1).bind fun t0 => if tyT ty t0 = true then
  (gs x.2).bind fun y => match x.1 with
    | .bor i p => if (R.bor i p).waits qs = true then y.2[i]?.bind fun s => s.tree?.bind fun t => (t.get p).bind fun u => (f u y.1).map fun r => (.val r.2, y.2.set i (s.with (t.put p r.1))) else none
    | .val _ => none else none
/-- the thing at a slot's path is changed -/
theorem mut_fin {f : T → List T → Option (T × T)} {Q : VK} {i : Nat} {p : Path} {s : Sl} {t u t' rr : T} {us : List T} {vs : List V} {Su : List Addr} {v0 v1 : V} (E12 : Ext false F A H F2 A2 H2) (G2 : Good K P F2 A2 ρ2 σ H2) (es : ρ2[i]? = some s) (et : s.tree? = some t) (eu : t.get p = some u)
    (ef : f u us = some (t', rr)) (ev : σ[i]? = some (some v0)) (va : VAt H2 v0 p v1) (ou : OwAll K F2 H2 vs us Su) (nu : Su.Nodup) (du : ∀ a ∈ Su, ∀ i, a ∉ A2 i) (wu : ∀ a ∈ Su, Nw A H a)
    (k : ∀ F' A' H' v, Good K P F' A' (ρ2.set i (s.with (t.put p t'))) σ H' → Ext false F A H F' A' H' → Rx K (Nw A H) F' A' σ H' v (.val rr) → Q v H') : rMut K f v1 vs H2 Q := by
  obtain ⟨v1', ev1, o, back⟩ := G2.slotTree es et
  rw [ev] at ev1
  injection ev1 with ev1
  injection ev1 with ev1
  subst ev1
  obtain ⟨z, S1, hw, ow, nd1, sub, put⟩ := Ow.zoom (p := p) o (G2.nd i) eu
  have := va.inj hw
  subst this
  have dj1 : ∀ a ∈ S1, a ∉ Su := fun a m m' => du a m' i (sub a m)
  refine ⟨F2, u, us, S1, Su, t', rr, G2.same, ow, ou, List.nodup_append.mpr ⟨nd1, nu, fun a m b m' z => dj1 a m (z ▸ m')⟩, ef, fun H3 v S' Sr keep o' or nd' src => ?_⟩
  have ndA := List.nodup_append.mp nd'
  have keepA : ∀ a ∈ A2 i, a ∉ S1 → F2 a = none ∧ H3 a = H2 a := fun a m n => by
    obtain ⟨f, u', e⟩ := G2.noF i a m
    exact ⟨f, (keep a u' (fun z => (List.mem_append.mp z).elim n fun z => du a z i m) e).trans e.symm⟩
  obtain ⟨S2, o2, nd2, src2⟩ := put F2 H3 t' S' (Same.refl F2) keepA o' ndA.1 (fun a m m' => by
    rcases List.mem_append.mp (src a (List.mem_append_left _ m)) with z | z
    · exact z
    · exact absurd m' (du a z i))
  have inA2 : ∀ a ∈ S', a ∈ S1 ∨ a ∈ Su := fun a m => List.mem_append.mp (src a (List.mem_append_left _ m))
  have inAr : ∀ a ∈ Sr, a ∈ S1 ∨ a ∈ Su := fun a m => List.mem_append.mp (src a (List.mem_append_right _ m))
  -- what is in the slot now
  have where2 : ∀ a ∈ S2, a ∈ A2 i ∨ a ∈ Su := fun a m => by
    rcases src2 a m with z | z
    · rcases inA2 a z with y | y
      · exact .inl (sub a y)
      · exact .inr y
    · exact .inl z.1
  have subH : Same F2 H3 := fun b ob eb => by
    refine keep b ob (fun m => ?_) (G2.same b ob eb)
    rcases List.mem_append.mp m with m | m
    · rw [(G2.noF i b (sub b m)).1] at eb; cases eb
    · rw [(OwAll.inS us vs Su ou b m).1] at eb; cases eb
  have G3 : Good K P F2 (updA A2 i S2) (ρ2.set i (s.with (t.put p t'))) σ H3 := by
    refine G2.upd (List.getElem?_eq_some_iff.mp es).1 (Same.refl F2) subH (fun j hj a m => ?_) rfl (fun _ _ => rfl) (back _ _ _ _ o2) nd2 fun a m j hj m' => ?_
    · obtain ⟨f, u', e⟩ := G2.noF j a m
      refine ⟨f, (keep a u' (fun z => ?_) e).trans e.symm⟩
      rcases List.mem_append.mp z with z | z
      · exact hj (G2.dj j i a m (sub a z))
      · exact du a z j m
    · rcases where2 a m with z | z
      · exact hj (G2.dj j i a m' z)
      · exact du a z j m'
  have NW : ∀ a, a ∈ S1 ∨ a ∈ Su → Nw A H a := fun a m => by
    rcases m with m | m
    · exact E12.nw' (.inr ⟨i, sub a m⟩)
    · exact wu a m
  refine k F2 (updA A2 i S2) H3 v G3 ⟨E12.sF, fun a n => ?_, fun z => by cases z⟩ ⟨Sr, or, ndA.2.1, fun a m j => ?_, fun a m => NW a (inAr a m)⟩
  · obtain ⟨h2, f2, n2⟩ := E12.frm a n
    obtain ⟨⟨ob, eb⟩, _⟩ := of_not_nw n
    have hnot : a ∉ S1 ++ Su := fun m => n (NW a (List.mem_append.mp m))
    refine ⟨?_, f2, fun j => ?_⟩
    · rw [eb] at h2 ⊢
      exact keep a ob hnot h2
    · by_cases hj : j = i
      · subst hj
        rw [updA_same]
        intro m
        rcases where2 a m with z | z
        · exact n2 j z
        · exact hnot (List.mem_append_right _ z)
      · rw [updA_ne hj]
        exact n2 j
  · by_cases hj : j = i
    · subst hj
      rw [updA_same]
      intro m'
      rcases src2 a m' with z | z
      · exact ndA.2.2 a z a m rfl
      · rcases inAr a m with y | y
        · exact z.2 y
        · exact du a y j z.1
    · rw [updA_ne hj]
      intro m'
      rcases inAr a m with y | y
      · exact hj (G2.dj j i a m' (sub a y))
      · exact du a y j m'
theorem mutM_tr {qs : Bool} {f : T → List T → Option (T × T)} {gs : M (List T)} {ta : TA} (hty : ∀ F H v t, Same F H → Rd K F H v t → tyT T' t = true → tyV K T' v H) (ha : ∀ σ H Q, tB K qs gs σ H Q → ta σ H Q) :
    ∀ σ H Q, tE K false (mutM T' qs f g gs) σ H Q → tE K q g σ H fun x H1 => tyV K T' x H1 ∧ ta σ H1 fun xs H2 => rMut K f x xs H2 Q := fun σ H Q ⟨P, F, A, ρ, r0, ρ', G, e, k⟩ => by
  obtain ⟨⟨x, ρ1⟩, e1, e2⟩ := Option.bind_eq_some_iff.mp (show ((g ρ).bind _) = some (r0, ρ') from e)
  obtain ⟨t0, e3, e4⟩ := Option.bind_eq_some_iff.mp e2
  split at e4
  · rename_i ty
    obtain ⟨⟨us, ρ2⟩, e5, e6⟩ := Option.bind_eq_some_iff.mp e4
    cases x with
    | val _ => cases e6
    | bor i p =>
      have e6 : (if (R.bor i p).waits qs = true then ρ2[i]?.bind fun s => s.tree?.bind fun t => (t.get p).bind fun u => (f u us).map fun r => (R.val r.2, ρ2.set i (s.with (t.put p r.1))) else none) = some (r0, ρ') := e6
      split at e6
      · rename_i w
        obtain ⟨s, es, e7⟩ := Option.bind_eq_some_iff.mp e6
        obtain ⟨t, et, e8⟩ := Option.bind_eq_some_iff.mp e7
        obtain ⟨u, eu, e9⟩ := Option.bind_eq_some_iff.mp e8
        obtain ⟨⟨t', rr⟩, ef, e10⟩ := Option.map_eq_some_iff.mp e9
        injection e10 with e11 e12
        subst e11 e12
        refine ⟨P, F, A, ρ, _, ρ1, G, e1, fun F1 A1 H1 v1 G1 E1 R1 => ⟨hty F1 H1 v1 t0 G1.same (R1.look G1 e3) ty, ?_⟩⟩
        refine ha _ _ _ ⟨P, F1, A1, ρ1, us, ρ2, G1, e5, fun F2 A2 H2 vs Su G2 E2 ou nu du wu => ?_⟩
        obtain ⟨v0, ev, va⟩ := R1.wait E2 w
        exact mut_fin ((E1.trans E2).le (fun z => by cases z)) G2 es et eu ef ev va ou nu du (fun a m => E1.nw' (wu a m)) k
      · cases e6
  · cases e4
theorem e_mut {qs : Bool} {f : T → List T → Option (T × T)} {gs : M (List T)} (pa : PlainAttrs T') (slot : Slot T' name id) (hty : typeOf (.builtin id) = pure (.type "method_descriptor")) (hT : ∀ F H v t, Same F H → Rd X.K F H v t → tyT T' t = true → tyV X.K T' v H) (hm : MtR X id (rMut X.K f)) (ho : PE X o (tE X.K q g)) (ha : PA X (e :: es) (tB X.K qs gs))
    (hbase : attributeBase o name X.env (eval o X.env) = eval o X.env := by rfl)
    (hfew : ((backTo cpos (starEach (e :: es) X.env)).all (fun x => !x.1) && (backToKw cpos (keywordEach [] X.env)).all (fun x => x.1.isSome)
      && decide ((e :: es).length + ([] : List Keyword).length + (if ([] : List Keyword).isEmpty then 0 else 1) < 30)) = true := by rfl)
    (hline : (apos.endLine == cpos.line) = true := by rfl) (hs : starEach (e :: es) X.env = (false, eval e X.env) :: starEach es X.env := by rfl) (hplain : (backTo cpos (starEach es X.env)).any (·.1) = false := by rfl) :
    PE X (.Call (.Attribute o name apos) (e :: es) [] cpos) (tE X.K false (mutM T' qs f g gs)) :=
  PE_mono (pe_bm pa slot hty hm ho ha hbase hfew hline hs hplain) (mutM_tr hT fun _ _ _ h => h)
theorem e_mut0 {f : T → List T → Option (T × T)} (pa : PlainAttrs T') (slot : Slot T' name id) (hty : typeOf (.builtin id) = pure (.type "method_descriptor")) (hT : ∀ F H v t, Same F H → Rd X.K F H v t → tyT T' t = true → tyV X.K T' v H) (hm : MtR X id (rMut X.K f)) (ho : PE X o (tE X.K q g))
    (hbase : attributeBase o name X.env (eval o X.env) = eval o X.env := by rfl) (hline : (apos.endLine == cpos.line) = true := by rfl) : PE X (.Call (.Attribute o name apos) [] [] cpos) (tE X.K false (mutM T' true f g bNil)) :=
  PE_mono (pe_bm0 pa slot hty hm ho hbase hline) fun σ H Q h => by
    have h' := mutM_tr (q := q) (g := g) (K := X.K) (ta := fun _ H1 Q => Q [] H1) hT (fun σ H Q h => by
      obtain ⟨P, F, A, ρ, ds, ρ', G, e, k⟩ := h
      injection (show some (([] : List T), ρ) = some (ds, ρ') from e) with e
      injection e with e1 e2
      subst e1 e2
      exact k F A H [] [] G Ext.refl .nil List.nodup_nil (fun _ m => nomatch m) (fun _ m => nomatch m)) σ H Q h
    exact h'
end
end DL

/-! DL5: statements, targets, defs and their calls. -/
namespace DL
open PySem PySem.Spec PyProof.Rows L2
inductive Fl where
  | nx
  | bk
  | ct
  | rt (r : R)
section
variable {K : PySem.W.Frag} {P : Gh} {F F' F1 F2 H H' H1 H2 : Hp} {A A' A1 A2 : Nat → List Addr} {ρ ρ' ρ1 ρ2 : MS} {σ σ' : L2.St} {q qa qb : Bool} {X : Cx} {pos : Pos}
def endOf (K : PySem.W.Frag) (N : Addr → Prop) (F : Hp) (A : Nat → List Addr) (σ : L2.St) (H : Hp) (D : Ends) : Fl → Prop
  | .nx => D.nx σ H
  | .bk => D.bk σ H
  | .ct => D.ct σ H
  | .rt r => ∀ v, Rx K N F A σ H v r → D.rt v H
def tS (K : PySem.W.Frag) (q : Bool) (m : M Fl) : TS := fun D σ H => ∃ P F A ρ fl ρ', Good K P F A ρ σ H ∧ m ρ = some (fl, ρ') ∧
  ∀ F' A' σ' H', Good K P F' A' ρ' σ' H' → Ext q F A H F' A' H' → endOf K (Nw A H) F' A' σ' H' D fl
theorem endOf.le {N N' : Addr → Prop} {D : Ends} {fl : Fl} (h : endOf K N F A σ H D fl) (n : ∀ a, N' a → N a) : endOf K N' F A σ H D fl := by
  cases fl with
  | nx => exact h
  | bk => exact h
  | ct => exact h
  | rt r => exact fun v hr => h v (hr.le n)

/-! ### assigning -/
def freeAt (ρ : MS) (i : Nat) : Bool := match ρ[i]? with
  | some .non => true
  | some (.own _) => true
  | _ => false
def asg (i : Nat) (r : R) (ρ : MS) : Option MS := if freeAt ρ i = true then match r with
    | .val t => some (ρ.set i (.own t))
    | .bor j p => (frz (.bor j p) ρ).bind fun y => if freeAt y.2 i = true then some (y.2.set i (.own (.fr y.1))) else none
  else none
theorem freeAt_lt {i : Nat} (h : freeAt ρ i = true) : i < ρ.length := by
  unfold freeAt at h
  split at h
  · rename_i e; exact (List.getElem?_eq_some_iff.mp e).1
  · rename_i e; exact (List.getElem?_eq_some_iff.mp e).1
  · cases h
theorem set_val {v : V} {t : T} {i : Nat} (G : Good K P F1 A1 ρ1 σ H1) (E : Ext q F A H F1 A1 H1) (h : Rx K (Nw A H) F1 A1 σ H1 v (.val t)) (hf : freeAt ρ1 i = true) :
    ∃ A', Good K P F1 A' (ρ1.set i (.own t)) (σ.set i (some v)) H1 ∧ Ext q F A H F1 A' H1 ∧ (∀ j, j ≠ i → A' j = A1 j) := by
  obtain ⟨S, o, nd, dj, nw⟩ := h
  have hi := freeAt_lt hf
  have hσ : i < σ.length := by rw [← G.len]; exact hi
  refine ⟨updA A1 i S, G.upd hi (Same.refl F1) G.same (fun j _ a m => ⟨(G.noF j a m).1, rfl⟩) (by simp) (fun j hj => List.getElem?_set_ne (Ne.symm hj)) ⟨v, by rw [List.getElem?_set_self hσ], o⟩ nd (fun a m j _ => dj a m j), ⟨E.sF, fun a n => ?_, E.qt⟩, fun j hj => updA_ne hj⟩
  obtain ⟨h1, f1, n1⟩ := E.frm a n
  refine ⟨h1, f1, fun j => ?_⟩
  by_cases hj : j = i
  · subst hj
    rw [updA_same]
    exact fun m => n (nw a m)
  · rw [updA_ne hj]
    exact n1 j
theorem asg_ok {v : V} {r : R} {i : Nat} (G : Good K P F1 A1 ρ1 σ H1) (E : Ext q F A H F1 A1 H1) (h : Rx K (Nw A H) F1 A1 σ H1 v r) (e : asg i r ρ1 = some ρ2) :
    ∃ F' A', Good K P F' A' ρ2 (σ.set i (some v)) H1 ∧ Ext q F A H F' A' H1 := by
  unfold asg at e
  split at e
  · rename_i hf
    cases r with
    | val t =>
      have e := Option.some.inj e
      subst e
      obtain ⟨A', a, b, _⟩ := set_val G E h hf
      exact ⟨F1, A', a, b⟩
    | bor j p =>
      obtain ⟨⟨d, ρ3⟩, e1, e2⟩ := Option.bind_eq_some_iff.mp e
      obtain ⟨F2, A2, G2, E2, hd⟩ := frz_ok G E h e1
      have e2 : (if freeAt ρ3 i = true then some (ρ3.set i (.own (.fr d))) else none) = some ρ2 := e2
      split at e2
      · rename_i hf2
        have e2 := Option.some.inj e2
        subst e2
        obtain ⟨A', a, b, _⟩ := set_val (t := .fr d) G2 E2 (Rx.val_fr hd) hf2
        exact ⟨F2, A', a, b⟩
      · cases e2
  · cases e
def sSet (i : Nat) (g : M R) : M Fl := fun ρ => (g ρ).bind fun x => (asg i x.1 x.2).map fun ρ' => (.nx, ρ')
variable {g ga gb : M R} {e : Expr} {st : Stmt} {rest sa sb : List Stmt} {m n : M Fl}
theorem set_tr {i : Nat} : ∀ D σ H, tS K q (sSet i g) D σ H → tAsg (tE K q g) (gName i) D σ H := fun D σ H ⟨P, F, A, ρ, fl, ρ', G, e, k⟩ => by
  obtain ⟨⟨x, ρ1⟩, e1, e2⟩ := Option.bind_eq_some_iff.mp (show ((g ρ).bind _) = some (fl, ρ') from e)
  obtain ⟨ρ3, e3, e4⟩ := Option.map_eq_some_iff.mp e2
  injection e4 with e5 e6
  subst e5 e6
  refine ⟨P, F, A, ρ, x, ρ1, G, e1, fun F1 A1 H1 v G1 E1 R1 => ?_⟩
  obtain ⟨F2, A2, G2, E2⟩ := asg_ok G1 E1 R1 e3
  exact k F2 A2 _ H1 G2 E2
theorem s_set {i : Nat} {x : Str} {pos' : Pos} (hN : X.N.Nodup) (hi : X.N[i]? = some x) (hx : Loc X.env.scope x) (he : PE X e (tE X.K q g)) (hs : swapsWith e (some (.Name x pos')) pos.line X.env = pure false := by rfl) (hf : X.fn x = true ∨ X.env.scope.names.lookup x = some .local := by first | exact .inl rfl | exact .inr rfl | assumption) :
    PS X (.Assign [.Name x pos'] e pos) (tS X.K q (sSet i g)) := PS_mono (ps_set hN hi hx he hs hf) set_tr
def sExpr (g : M R) : M Fl := fun ρ => (g ρ).map fun x => (.nx, x.2)
theorem s_expr (he : PE X e (tE X.K q g)) (hs : swapsWith e none pos.line X.env = pure false := by rfl) : PS X (.Expr e pos) (tS X.K q (sExpr g)) := PS_mono (ps_expr he hs) fun D σ H ⟨P, F, A, ρ, fl, ρ', G, e, k⟩ => by
  obtain ⟨⟨x, ρ1⟩, e1, e2⟩ := Option.map_eq_some_iff.mp (show ((g ρ).map _) = some (fl, ρ') from e)
  injection e2 with e5 e6
  subst e5 e6
  exact ⟨P, F, A, ρ, x, ρ1, G, e1, fun F1 A1 H1 v G1 E1 R1 => k F1 A1 σ H1 G1 E1⟩
def sRet (g : M R) : M Fl := fun ρ => (g ρ).map fun x => (.rt x.1, x.2)
theorem s_ret (he : PE X e (tE X.K q g)) : PS X (.Return (some e) pos) (tS X.K q (sRet g)) := PS_mono (ps_ret he) fun D σ H ⟨P, F, A, ρ, fl, ρ', G, e, k⟩ => by
  obtain ⟨⟨x, ρ1⟩, e1, e2⟩ := Option.map_eq_some_iff.mp (show ((g ρ).map _) = some (fl, ρ') from e)
  injection e2 with e5 e6
  subst e5 e6
  exact ⟨P, F, A, ρ, x, ρ1, G, e1, fun F1 A1 H1 v G1 E1 R1 => k F1 A1 σ H1 G1 E1 v R1⟩
def sRetN : M Fl := fun ρ => some (.rt (.val (.fr .none)), ρ)
def sNx : M Fl := fun ρ => some (.nx, ρ)
def sBk : M Fl := fun ρ => some (.bk, ρ)
def sCt : M Fl := fun ρ => some (.ct, ρ)
def sBad : M Fl := fun _ => none
theorem const_tr {fl0 : Fl} {t : TS} (h : ∀ D σ H F A (N : Addr → Prop), endOf K N F A σ H D fl0 → t D σ H) : ∀ D σ H, tS K true (fun ρ => some (fl0, ρ)) D σ H → t D σ H := fun D σ H ⟨P, F, A, ρ, fl, ρ', G, e, k⟩ => by
  injection (show some (fl0, ρ) = some (fl, ρ') from e) with e
  injection e with e1 e2
  subst e1 e2
  exact h D σ H F A _ (k F A σ H G Ext.refl)
theorem s_retN : PS X (.Return none pos) (tS X.K true sRetN) := PS_mono ps_retN (const_tr fun D σ H F A N h => h .non (Rx.val_fr .non))
theorem s_pass : PS X (.Pass pos) (tS X.K true sNx) := PS_mono ps_pass (const_tr fun D σ H F A N h => h)
theorem s_break : PS X (.Break pos) (tS X.K true sBk) := PS_mono ps_break (const_tr fun D σ H F A N h => h)
theorem s_continue : PS X (.Continue pos) (tS X.K true sCt) := PS_mono ps_continue (const_tr fun D σ H F A N h => h)
theorem s_never : PS X st (tS X.K true sBad) := PS_mono ps_never fun D σ H ⟨P, F, A, ρ, fl, ρ', G, e, k⟩ => by cases e
theorem ss_nil : PSs X [] (tS X.K true sNx) := PSs_mono pss_nil (const_tr fun D σ H F A N h => h)
theorem ss_one (h : PS X st (tS X.K q m)) : PSs X [st] (tS X.K q m) := pss_one h
def sSeq (m n : M Fl) : M Fl := fun ρ => (m ρ).bind fun x => match x.1 with
  | .nx => n x.2
  | fl => some (fl, x.2)
theorem endOf.to {N : Addr → Prop} {D D' : Ends} {fl : Fl} (h : endOf K N F A σ H D fl) (h1 : fl ≠ .nx) (e2 : D'.bk = D.bk) (e3 : D'.ct = D.ct) (e4 : D'.rt = D.rt) : endOf K N F A σ H D' fl := by
  cases fl with
  | nx => exact absurd rfl h1
  | bk => show D'.bk σ H; rw [e2]; exact h
  | ct => show D'.ct σ H; rw [e3]; exact h
  | rt r => intro v hv; show D'.rt v H; rw [e4]; exact h v hv
theorem ss_cons (h1 : PS X st (tS X.K qa m)) (h2 : PSs X rest (tS X.K qb n)) : PSs X (st :: rest) (tS X.K (qa && qb) (sSeq m n)) := PSs_mono (pss_cons h1 h2) fun D σ H ⟨P, F, A, ρ, fl, ρ', G, e, k⟩ => by
  obtain ⟨⟨x, ρ1⟩, e1, e2⟩ := Option.bind_eq_some_iff.mp (show ((m ρ).bind _) = some (fl, ρ') from e)
  refine ⟨P, F, A, ρ, x, ρ1, G, e1, fun F1 A1 σ1 H1 G1 E1 => ?_⟩
  have other : x ≠ .nx → some (x, ρ1) = some (fl, ρ') → endOf X.K (Nw A H) F1 A1 σ1 H1 { D with nx := (tS X.K qb n) D } x := fun hx e2 => by
    injection e2 with e2
    injection e2 with e5 e6
    subst e5 e6
    exact (k F1 A1 σ1 H1 G1 (E1.le fun z => (Bool.and_eq_true_iff.mp z).1)).to hx rfl rfl rfl
  cases x with
  | nx =>
    refine ⟨P, F1, A1, ρ1, fl, ρ', G1, e2, fun F2 A2 σ2 H2 G2 E2 => ?_⟩
    exact (k F2 A2 σ2 H2 G2 (E1.trans E2)).le fun a z => E1.nw' z
  | bk => exact other (by intro z; cases z) e2
  | ct => exact other (by intro z; cases z) e2
  | rt r => exact other (by intro z; cases z) e2
def sIf (c : M Bool) (m n : M Fl) : M Fl := fun ρ => (c ρ).bind fun x => if x.1 then m x.2 else n x.2
theorem s_if {t : Expr} {c : M Bool} {qc : Bool} (hc : PT X t (tT X.K qc c)) (ha : PSs X sa (tS X.K qa m)) (hb : PSs X sb (tS X.K qb n)) : PS X (.If t sa sb pos) (tS X.K (qc && (qa && qb)) (sIf c m n)) :=
  PS_mono (ps_if hc ha hb) fun D σ H ⟨P, F, A, ρ, fl, ρ', G, e, k⟩ => by
    obtain ⟨⟨x, ρ1⟩, e1, e2⟩ := Option.bind_eq_some_iff.mp (show ((c ρ).bind _) = some (fl, ρ') from e)
    refine ⟨P, F, A, ρ, x, ρ1, G, e1, fun F1 A1 H1 G1 E1 => ?_⟩
    cases x with
    | true =>
      rw [if_pos rfl]
      exact ⟨P, F1, A1, ρ1, fl, ρ', G1, e2, fun F2 A2 σ2 H2 G2 E2 => (k F2 A2 σ2 H2 G2 ((E1.trans E2).le fun h => by simp at h; simp [h])).le fun a z => E1.nw' z⟩
    | false =>
      rw [if_neg Bool.false_ne_true]
      exact ⟨P, F1, A1, ρ1, fl, ρ', G1, e2, fun F2 A2 σ2 H2 G2 E2 => (k F2 A2 σ2 H2 G2 ((E1.trans E2).le fun h => by simp at h; simp [h])).le fun a z => E1.nw' z⟩
/-- name op= e: of frozen things -/
def sAug (i : Nat) (f : T → T → Option T) (g : M R) : M Fl := fun ρ => (ρ[i]?.bind Sl.tree?).bind fun t => match t with
  | .fr d => (g ρ).bind fun y => (look y.2 y.1).bind fun u => (f (.fr d) u).bind fun r => (asg i (.val r) y.2).map fun ρ' => (.nx, ρ')
  | _ => none
theorem s_aug {i : Nat} {x : Str} {op : Operator} {f : T → T → Option T} {pos' : Pos} (hN : X.N.Nodup) (hi : X.N[i]? = some x) (hx : Loc X.env.scope x) (he : PE X e (tE X.K q g)) (ho : PIp X op (rT2 X.K f)) (hf : X.fn x = true ∨ X.env.scope.names.lookup x = some .local := by first | exact .inl rfl | exact .inr rfl | assumption) :
    PS X (.AugAssign (.Name x pos') op e pos) (tS X.K q (sAug i f g)) := PS_mono (ps_aug hN hi hx he ho hf) fun D σ H ⟨P, F, A, ρ, fl, ρ', G, e, k⟩ => by
  obtain ⟨t, et, e1⟩ := Option.bind_eq_some_iff.mp (show ((ρ[i]?.bind Sl.tree?).bind _) = some (fl, ρ') from e)
  obtain ⟨v0, ev, o⟩ := G.tree et
  cases t with
  | fr d =>
    obtain ⟨⟨y, ρ1⟩, e2, e3⟩ := Option.bind_eq_some_iff.mp e1
    obtain ⟨u, e4, e5⟩ := Option.bind_eq_some_iff.mp e3
    obtain ⟨r, e6, e7⟩ := Option.bind_eq_some_iff.mp e5
    obtain ⟨ρ3, e8, e9⟩ := Option.map_eq_some_iff.mp e7
    injection e9 with e10 e11
    subst e10 e11
    refine ⟨v0, ev, P, F, A, ρ, y, ρ1, G, e2, fun F1 A1 H1 v G1 E1 R1 => ?_⟩
    refine ⟨F1, .fr d, u, r, G1.same, ⟨[], .fr (Dp.mono E1.sF _ _ (Rd.fr ⟨_, o⟩))⟩, R1.look G1 e4, e6, fun F2 H2 z S gr oz nd n => ?_⟩
    have G2 := G1.grow gr
    have E2 : Ext q F A H F2 A1 H2 := (E1.trans (gr.ext (q := true))).le (by simp)
    obtain ⟨F3, A3, G3, E3⟩ := asg_ok G2 E2 ((G1.newRx oz nd n).le fun a m => E1.nw' m) e8
    exact k F3 A3 _ H2 G3 E3
  | lst _ => cases e1
  | tup _ => cases e1
  | dic _ _ => cases e1
  | scr _ => cases e1

/-! ### storing into a list, a dict -/
def rPut (K : PySem.W.Frag) (f : T → T → PyData → Option T) : V → V → V → Hp → (Hp → Prop) → Prop := fun o i v H Q => ∃ F t u d S t', Same F H ∧ Ow K F H o t S ∧ S.Nodup ∧ Rd K F H i u ∧ Dp K F v d ∧ f t u d = some t' ∧
  ∀ H' S', (∀ a ob, a ∉ S → H a = some ob → H' a = some ob) → Ow K F H' o t' S' → S'.Nodup → (∀ a ∈ S', a ∈ S) → Q H'
def sPut (qb : Bool) (f : T → T → PyData → Option T) (g ga gb : M R) : M Fl := fun ρ => (fz g ρ).bind fun z => (ga z.2).bind fun x => (gb x.2).bind fun y => match x.1 with
  | .bor i p => if (R.bor i p).waits qb = true then (look y.2 y.1).bind fun u => y.2[i]?.bind fun s => s.tree?.bind fun t0 => (t0.get p).bind fun t => (f t u z.1).map fun t' => (.nx, y.2.set i (s.with (t0.put p t'))) else none
  | .val _ => none
theorem s_put {a b : Expr} {f : T → T → PyData → Option T} {tpos : Pos} (hp : PSet X (rPut X.K f)) (he : PE X e (tE X.K q g)) (ha : PE X a (tE X.K qa ga)) (hb : PE X b (tE X.K qb gb))
    (hh : ∀ v, assign (.Subscript a b tpos) X.env v = (do
      let ov ← holding [v] (eval a X.env)
      let iv ← holding [v, ov] (eval b X.env)
      standAt tpos
      holding [v, ov, iv] (setItem ov iv v)
      release [v, ov, iv] []) := by intro _; rfl)
    (hs : swapsWithSole [.Subscript a b tpos] e pos.line X.env = pure false := by rfl) (hw : swappedStores [.Subscript a b tpos] e X.env = pure none := by rfl)
    (h1 : (assignEach [.Subscript a b tpos] X.env).map (·.2) = [assign (.Subscript a b tpos) X.env] := by rfl) : PS X (.Assign [.Subscript a b tpos] e pos) (tS X.K false (sPut qb f g ga gb)) :=
  PS_mono (ps_asg he (pg_sub ha hb hp hh) hs hw h1) fun D σ H ⟨P, F, A, ρ, fl, ρ', G, e, k⟩ => by
    obtain ⟨⟨d, ρ1⟩, e1, e2⟩ := Option.bind_eq_some_iff.mp (show ((fz g ρ).bind _) = some (fl, ρ') from e)
    obtain ⟨⟨x, ρ2⟩, e3, e4⟩ := Option.bind_eq_some_iff.mp e2
    obtain ⟨⟨y, ρ3⟩, e5, e6⟩ := Option.bind_eq_some_iff.mp e4
    refine fz_tr (te := tE X.K q g) (fun _ _ _ h => h) G e1 fun F1 A1 H1 v G1 E1 hd => ?_
    refine ⟨P, F1, A1, ρ1, x, ρ2, G1, e3, fun F2 A2 H2 v2 G2 E2 R2 => ?_⟩
    refine ⟨P, F2, A2, ρ2, y, ρ3, G2, e5, fun F3 A3 H3 v3 G3 E3 R3 => ?_⟩
    cases x with
    | val _ => cases e6
    | bor i p =>
      have e6 : (if (R.bor i p).waits qb = true then (look ρ3 y).bind fun u => ρ3[i]?.bind fun s => s.tree?.bind fun t0 => (t0.get p).bind fun t => (f t u d).map fun t' => (Fl.nx, ρ3.set i (s.with (t0.put p t'))) else none) = some (fl, ρ') := e6
      split at e6
      · rename_i w
        obtain ⟨u, eu, e7⟩ := Option.bind_eq_some_iff.mp e6
        obtain ⟨s, es, e8⟩ := Option.bind_eq_some_iff.mp e7
        obtain ⟨t0, et, e9⟩ := Option.bind_eq_some_iff.mp e8
        obtain ⟨t, egt, e10⟩ := Option.bind_eq_some_iff.mp e9
        obtain ⟨t', ef, e11⟩ := Option.map_eq_some_iff.mp e10
        injection e11 with e12 e13
        subst e12 e13
        obtain ⟨v0, ev, va⟩ := R2.wait E3 w
        obtain ⟨v1', ev1, o, back⟩ := G3.slotTree es et
        rw [ev] at ev1
        injection ev1 with ev1
        injection ev1 with ev1
        subst ev1
        obtain ⟨z, S1, hw', ow, nd1, sub, put⟩ := Ow.zoom (p := p) o (G3.nd i) egt
        have := va.inj hw'
        subst this
        refine ⟨F3, t, u, d, S1, t', G3.same, ow, nd1, R3.look G3 eu, Dp.mono (E2.sF.trans E3.sF) _ _ hd, ef, fun H4 S' keep o' nd' src => ?_⟩
        have keepA : ∀ a ∈ A3 i, a ∉ S1 → F3 a = none ∧ H4 a = H3 a := fun a m n => by
          obtain ⟨f, u', e⟩ := G3.noF i a m
          exact ⟨f, (keep a u' n e).trans e.symm⟩
        obtain ⟨S2, o2, nd2, src2⟩ := put F3 H4 t' S' (Same.refl F3) keepA o' nd' (fun a m m' => src a m)
        have where2 : ∀ a ∈ S2, a ∈ A3 i := fun a m => by
          rcases src2 a m with z | z
          · exact sub a (src a z)
          · exact z.1
        have subH : Same F3 H4 := fun b ob eb => keep b ob (fun m => by rw [(G3.noF i b (sub b m)).1] at eb; cases eb) (G3.same b ob eb)
        have G4 : Good X.K P F3 (updA A3 i S2) (ρ3.set i (s.with (t0.put p t'))) σ H4 := by
          refine G3.upd (List.getElem?_eq_some_iff.mp es).1 (Same.refl F3) subH (fun j hj a m => ?_) rfl (fun _ _ => rfl) (back _ _ _ _ o2) nd2 fun a m j hj m' => hj (G3.dj j i a m' (where2 a m))
          obtain ⟨f, u', e⟩ := G3.noF j a m
          exact ⟨f, (keep a u' (fun z => hj (G3.dj j i a m (sub a z))) e).trans e.symm⟩
        refine k F3 (updA A3 i S2) σ H4 G4 ⟨(E1.sF.trans E2.sF).trans E3.sF, fun a n => ?_, fun z => by cases z⟩
        obtain ⟨h2, f2, n2⟩ := ((E1.trans E2).trans E3).frm a n
        obtain ⟨⟨ob, eb⟩, _⟩ := of_not_nw n
        refine ⟨?_, f2, fun j => ?_⟩
        · rw [eb] at h2 ⊢
          exact keep a ob (fun m => n2 i (sub a m)) h2
        · by_cases hj : j = i
          · subst hj
            rw [updA_same]
            exact fun m => n2 j (where2 a m)
          · rw [updA_ne hj]
            exact n2 j
      · cases e6

/-! ### targets, of frozen things -/
abbrev GM := PyData → MS → Option MS
def tG (K : PySem.W.Frag) (ts : List Nat) (m : GM) : TG := fun v σ H Q => ∃ P F A ρ d ρ', Good K P F A ρ σ H ∧ Dp K F v d ∧ m d ρ = some ρ' ∧
  ∀ A' σ', Good K P F A' ρ' σ' H → (∀ i a, a ∈ A' i → a ∈ A i) → σ'.length = σ.length → (∀ j, j ∉ ts → σ'[j]? = σ[j]?) → Q σ' H
def tGs (K : PySem.W.Frag) (ts : List Nat) (m : List PyData → MS → Option MS) : TGs := fun vs σ H Q => ∃ P F A ρ ds ρ', Good K P F A ρ σ H ∧ DpAll K F vs ds ∧ m ds ρ = some ρ' ∧
  ∀ A' σ', Good K P F A' ρ' σ' H → (∀ i a, a ∈ A' i → a ∈ A i) → σ'.length = σ.length → (∀ j, j ∉ ts → σ'[j]? = σ[j]?) → Q σ' H
def gNm (i : Nat) : GM := fun d ρ => if freeAt ρ i = true then some (ρ.set i (.own (.fr d))) else none
theorem PG_mono {tg : Expr} {t t' : TG} (h : PG X tg t) (m : ∀ v σ H Q, t' v σ H Q → t v σ H Q) : PG X tg t' := ⟨fun pins s σ H v u Q I r w => h.run pins s σ H v u Q I r (m v σ H Q w)⟩
theorem PGs_mono {tg : List Expr} {t t' : TGs} (h : PGs X tg t) (m : ∀ v σ H Q, t' v σ H Q → t v σ H Q) : PGs X tg t' := ⟨fun pins s σ H v u Q I r w => h.run pins s σ H v u Q I r (m v σ H Q w)⟩
theorem g_name {i : Nat} {x : Str} (hN : X.N.Nodup) (hi : X.N[i]? = some x) (hx : Loc X.env.scope x) (hf : X.fn x = true ∨ X.env.scope.names.lookup x = some .local := by first | exact .inl rfl | exact .inr rfl | assumption) : PG X (.Name x pos) (tG X.K [i] (gNm i)) :=
  PG_mono (pg_name hN hi hx hf) fun v σ H Q ⟨P, F, A, ρ, d, ρ', G, hd, e, k⟩ => by
    have e : (if freeAt ρ i = true then some (ρ.set i (.own (.fr d))) else none) = some ρ' := e
    split at e
    · rename_i hfr
      have e := Option.some.inj e
      subst e
      have hi' := freeAt_lt hfr
      have hσ : i < σ.length := by rw [← G.len]; exact hi'
      refine k (updA A i []) _ (G.upd hi' (Same.refl F) G.same (fun j _ a m => ⟨(G.noF j a m).1, rfl⟩) (by simp) (fun j hj => List.getElem?_set_ne (Ne.symm hj)) ⟨v, by rw [List.getElem?_set_self hσ], .fr hd⟩ List.nodup_nil (fun a m => nomatch m)) (fun j a m => ?_) (by simp) (fun j hj => List.getElem?_set_ne (by intro z; subst z; exact hj (by simp)))
      by_cases hj : j = i
      · subst hj; rw [updA_same] at m; cases m
      · rw [updA_ne hj] at m; exact m
    · cases e
def gN0 : List PyData → MS → Option MS := fun ds ρ => match ds with
  | [] => some ρ
  | _ => none
def gC (m : GM) (ms : List PyData → MS → Option MS) : List PyData → MS → Option MS := fun ds ρ => match ds with
  | [] => none
  | d :: r => (m d ρ).bind fun ρ1 => ms r ρ1
theorem gs_nil : PGs X [] (tGs X.K [] gN0) := PGs_mono pgs_nil fun vs σ H Q ⟨P, F, A, ρ, ds, ρ', G, hd, e, k⟩ => by
  cases hd with
  | nil =>
    have e := Option.some.inj (show some ρ = some ρ' from e)
    subst e
    exact ⟨rfl, k A σ G (fun _ _ h => h) rfl (fun _ _ => rfl)⟩
  | cons a b => cases e
theorem gs_cons {e : Expr} {es : List Expr} {m : GM} {ms : List PyData → MS → Option MS} {ts us : List Nat} (h1 : PG X e (tG X.K ts m)) (h2 : PGs X es (tGs X.K us ms))
    (hs : (assignEach (e :: es) X.env).map (·.2) = assign e X.env :: (assignEach es X.env).map (·.2) := by rfl) : PGs X (e :: es) (tGs X.K (ts ++ us) (gC m ms)) := PGs_mono (pgs_cons h1 h2 hs) fun vs σ H Q ⟨P, F, A, ρ, ds, ρ', G, hd, e, k⟩ => by
  cases hd with
  | nil => cases e
  | cons a b =>
    obtain ⟨ρ1, e1, e2⟩ := Option.bind_eq_some_iff.mp (show ((m _ ρ).bind _) = some ρ' from e)
    refine ⟨_, _, rfl, P, F, A, ρ, _, ρ1, G, a, e1, fun A1 σ1 G1 s1 l1 n1 => ?_⟩
    refine ⟨P, F, A1, ρ1, _, ρ', G1, b, e2, fun A2 σ2 G2 s2 l2 n2 => ?_⟩
    exact k A2 σ2 G2 (fun i a m => s1 i a (s2 i a m)) (l2.trans l1) (fun j hj => (n2 j fun z => hj (by simp [z])).trans (n1 j fun z => hj (by simp [z])))
def gTp (n : Nat) (ms : List PyData → MS → Option MS) : GM := fun d ρ => match d with
  | .tuple ds => if ds.length = n then ms ds ρ else none
  | _ => none
theorem g_tup {es : List Expr} {k : Nat} {ms : List PyData → MS → Option MS} {n : Nat} {ts : List Nat} (hc : X.calm = true) (h : PGs X es (tGs X.K ts ms))
    (hn : (assignEach es X.env).length = n := by rfl) (hst : (assignEach es X.env).findIdx? (·.1) = none := by rfl) : PG X (.Tuple es k pos) (tG X.K ts (gTp n ms)) := PG_mono (pg_tup hc h hn hst) fun v σ H Q ⟨P, F, A, ρ, d, ρ', G, hd, e, k⟩ => by
  cases d with
  | tuple ds =>
    have e : (if ds.length = n then ms ds ρ else none) = some ρ' := e
    split at e
    · rename_i hl
      cases hd with
      | tup a b => exact ⟨_, _, rfl, SqT.same G.same a, (DpAll.length b).trans hl, P, F, A, ρ, ds, ρ', G, b, e, k⟩
    · cases e
  | _ => cases e
/-- target = e, e frozen -/
def sAsg (m : GM) (g : M R) : M Fl := fun ρ => (fz g ρ).bind fun x => (m x.1 x.2).map fun ρ' => (.nx, ρ')
theorem Ext.shrink {A' : Nat → List Addr} (E : Ext q F A H F1 A1 H1) (h : ∀ i a, a ∈ A' i → a ∈ A1 i) : Ext q F A H F1 A' H1 :=
  ⟨E.sF, fun a n => by
    obtain ⟨h1, f1, n1⟩ := E.frm a n
    exact ⟨h1, f1, fun i m => n1 i (h i a m)⟩, E.qt⟩
theorem s_asg {tg : Expr} {m : GM} {ts : List Nat} (he : PE X e (tE X.K q g)) (hg : PG X tg (tG X.K ts m)) (hs : swapsWithSole [tg] e pos.line X.env = pure false := by rfl) (hw : swappedStores [tg] e X.env = pure none := by rfl)
    (h1 : (assignEach [tg] X.env).map (·.2) = [assign tg X.env] := by rfl) : PS X (.Assign [tg] e pos) (tS X.K q (sAsg m g)) := PS_mono (ps_asg he hg hs hw h1) fun D σ H ⟨P, F, A, ρ, fl, ρ', G, e, k⟩ => by
  obtain ⟨⟨d, ρ1⟩, e1, e2⟩ := Option.bind_eq_some_iff.mp (show ((fz g ρ).bind _) = some (fl, ρ') from e)
  obtain ⟨ρ2, e3, e4⟩ := Option.map_eq_some_iff.mp e2
  injection e4 with e5 e6
  subst e5 e6
  refine fz_tr (te := tE X.K q g) (fun _ _ _ h => h) G e1 fun F1 A1 H1 v G1 E1 hd => ?_
  exact ⟨P, F1, A1, ρ1, d, ρ2, G1, hd, e3, fun A2 σ2 G2 s2 _ _ => k F1 A2 σ2 H1 G2 (E1.shrink s2)⟩

/-! ### defs -/
def retT (r : R) : M T := fun ρ => match r with
  | .val t => some (t, ρ)
  | .bor i p => match p, ρ[i]? with
    | [], some (.own t) => some (t, ρ.set i .non)
    | p, _ => (frz (.bor i p) ρ).map fun y => (.fr y.1, y.2)
def pinOnly : Sl → Sl
  | .pin t => .pin t
  | _ => .non
def pinsOf (n : Nat) (ρ : MS) : MS := (ρ.take n).map pinOnly
def exitM (n : Nat) (fl : Fl) (ρ : MS) : Option (T × MS) := match fl with
  | .nx => some (.fr .none, pinsOf n ρ)
  | .rt r => (retT r ρ).map fun y => (y.1, pinsOf n y.2)
  | _ => none
def argOk : Sl → Bool
  | .own _ => true
  | .pin _ => true
  | _ => false
def runFn (n nsl : Nat) (m : M Fl) : MS → Option (T × MS) := fun ps => if ps.length = n ∧ ps.all argOk = true then (m (ps ++ List.replicate (nsl - n) .non)).bind fun x => exitM n x.1 x.2 else none
def spD (K : PySem.W.Frag) (q : Bool) (G : MS → Option (T × MS)) : Sp := fun vs H Q _ => ∃ P F A ps r ps', Good K P F A ps (vs.map some) H ∧ G ps = some (r, ps') ∧
  ∀ F' A' H' v, Good K P F' A' ps' (vs.map some) H' → Ext q F A H F' A' H' → Rx K (Nw A H) F' A' (vs.map some) H' v (.val r) → Q v H'
def isPin : Sl → Bool
  | .pin _ => true
  | _ => false
theorem retT_ok {v : V} {r : R} {t : T} (G : Good K P F1 A1 ρ1 σ H1) (E : Ext q F A H F1 A1 H1) (h : Rx K (Nw A H) F1 A1 σ H1 v r) (e : retT r ρ1 = some (t, ρ2)) :
    ∃ F' A', Good K P F' A' ρ2 σ H1 ∧ Ext q F A H F' A' H1 ∧ Rx K (Nw A H) F' A' σ H1 v (.val t) := by
  cases r with
  | val u =>
    injection (show some (u, ρ1) = some (t, ρ2) from e) with e
    injection e with e1 e2
    subst e1 e2
    exact ⟨F1, A1, G, E, h⟩
  | bor i p =>
    have fr : (frz (.bor i p) ρ1).map (fun y => (T.fr y.1, y.2)) = some (t, ρ2) → ∃ F' A', Good K P F' A' ρ2 σ H1 ∧ Ext q F A H F' A' H1 ∧ Rx K (Nw A H) F' A' σ H1 v (.val t) := fun e => by
      obtain ⟨⟨d, ρ3⟩, e1, e2⟩ := Option.map_eq_some_iff.mp e
      injection e2 with e2 e3
      subst e2 e3
      obtain ⟨F2, A2, G2, E2, hd⟩ := frz_ok G E h e1
      exact ⟨F2, A2, G2, E2, Rx.val_fr hd⟩
    cases p with
    | cons k p => exact fr e
    | nil =>
      cases es : ρ1[i]? with
      | none =>
        have e : (match ([] : Path), ρ1[i]? with
          | [], some (.own t) => some (t, ρ1.set i .non)
          | p, _ => (frz (.bor i p) ρ1).map fun y => (T.fr y.1, y.2)) = some (t, ρ2) := e
        rw [es] at e
        exact fr e
      | some s =>
        have e : (match ([] : Path), ρ1[i]? with
          | [], some (.own t) => some (t, ρ1.set i .non)
          | p, _ => (frz (.bor i p) ρ1).map fun y => (T.fr y.1, y.2)) = some (t, ρ2) := e
        rw [es] at e
        cases s with
        | non => exact fr e
        | hid => exact fr e
        | pin u => exact fr e
        | own u =>
          injection (show some (u, ρ1.set i .non) = some (t, ρ2) from e) with e
          injection e with e1 e2
          subst e1 e2
          obtain ⟨v0, ev, va⟩ := h
          obtain ⟨v1, ev1, o⟩ := G.slot i _ es
          rw [ev] at ev1
          injection ev1 with ev1
          injection ev1 with ev1
          subst ev1
          have va : v0 = v := va
          subst va
          refine ⟨F1, updA A1 i [], G.upd (List.getElem?_eq_some_iff.mp es).1 (Same.refl F1) G.same (fun j _ a m => ⟨(G.noF j a m).1, rfl⟩) rfl (fun _ _ => rfl) rfl List.nodup_nil (fun a m => nomatch m), E.shrink (fun j a m => ?_), A1 i, o, G.nd i, fun a m j => ?_, fun a m => E.nw' (.inr ⟨i, m⟩)⟩
          · by_cases hj : j = i
            · subst hj; rw [updA_same] at m; cases m
            · rw [updA_ne hj] at m; exact m
          · by_cases hj : j = i
            · subst hj; rw [updA_same]; exact fun m => nomatch m
            · rw [updA_ne hj]; exact fun m' => hj (G.dj j i a m' m)
theorem Good.weakP {P' : Gh} (G : Good K P F A ρ σ H) (h : ∀ i v, P i = some v → P' i = some v) (hn : σ.length = P'.n) : Good K P' F A ρ σ H :=
  ⟨G.same, G.len, fun i s e => by
    have hh := G.slot i s e
    cases s with
    | non => exact hh
    | hid => obtain ⟨a, v, b, c⟩ := hh; exact ⟨a, v, b, h i v c⟩
    | own t => exact hh
    | pin t => obtain ⟨v, a, b, c⟩ := hh; exact ⟨v, a, h i v b, c⟩, G.out, G.nd, G.dj, hn⟩
/-- the pinned slots alone -/
theorem Good.pins {vs : List V} (G : Good K P F A ρ σ H) (hP : ∀ i v, P i = some v → vs[i]? = some v) (hn : vs.length ≤ ρ.length) :
    ∃ A', Good K ⟨P.pin, vs.length⟩ F A' (pinsOf vs.length ρ) (vs.map some) H ∧ ∀ i a, a ∈ A' i → a ∈ A i := by
  have get : ∀ i, (pinsOf vs.length ρ)[i]? = if i < vs.length then (ρ[i]?).map pinOnly else none := fun i => by
    unfold pinsOf
    rw [List.getElem?_map, List.getElem?_take]
    split <;> rfl
  refine ⟨fun i => match (pinsOf vs.length ρ)[i]? with | some (.pin _) => A i | _ => [], ⟨G.same, by unfold pinsOf; simp; omega, fun i s e => ?_, fun i h => ?_, fun i => ?_, fun i j a m m' => ?_, by simp⟩, fun i a m => ?_⟩
  · show SlotOk K ⟨P.pin, vs.length⟩ F H i s (vs.map some)[i]? (match (pinsOf vs.length ρ)[i]? with | some (.pin _) => A i | _ => [])
    rw [e]
    rw [get] at e
    split at e
    · obtain ⟨s0, e0, e1⟩ := Option.map_eq_some_iff.mp e
      have h := G.slot i s0 e0
      cases s0 with
      | non => cases e1; rfl
      | hid => cases e1; rfl
      | own t => cases e1; rfl
      | pin t =>
        cases e1
        obtain ⟨v, a, b, c⟩ := h
        exact ⟨v, by rw [List.getElem?_map, hP i v b]; rfl, b, c⟩
    · cases e
  · have : (pinsOf vs.length ρ)[i]? = none := List.getElem?_eq_none_iff.mpr h
    simp only [this]
  · show List.Nodup (match (pinsOf vs.length ρ)[i]? with | some (.pin _) => A i | _ => [])
    split
    · exact G.nd i
    · exact List.nodup_nil
  · have m : a ∈ (match (pinsOf vs.length ρ)[i]? with | some (.pin _) => A i | _ => []) := m
    have m' : a ∈ (match (pinsOf vs.length ρ)[j]? with | some (.pin _) => A j | _ => []) := m'
    split at m
    · split at m'
      · exact G.dj i j a m m'
      · cases m'
    · cases m
  · have m : a ∈ (match (pinsOf vs.length ρ)[i]? with | some (.pin _) => A i | _ => []) := m
    split at m
    · exact m
    · cases m
end
section
variable {P : Program} {w : World} {K : PySem.W.Frag} {mg : Str → Option Value} {base : Heap}
theorem fn_len {N ps : List Str} {q : Bool} {m : M Fl} : ∀ vs H Q E, spD K q (runFn ps.length N.length m) vs H Q E → vs.length = ps.length := fun vs H Q E ⟨P0, F, A, sl, r, sl', G, e, k⟩ => by
    have e : (if sl.length = ps.length ∧ sl.all argOk = true then (m (sl ++ List.replicate (N.length - ps.length) .non)).bind fun x => exitM ps.length x.1 x.2 else none) = some (r, sl') := e
    split at e
    · rename_i hl
      replace hl := hl.1
      have := G.len
      rw [List.length_map] at this
      omega
    · cases e
/-- from a def's promise: its body, at the entry -/
theorem fn_enter {N ps : List Str} {q : Bool} {m : M Fl} (hpl : ps.length ≤ N.length) {vs : List V} {H : Hp} {Q : VK} {E : XK} (h : spD K q (runFn ps.length N.length m) vs H Q E) :
    tS K q m { nx := fun _ H' => Q .non H', rt := Q } (L2.start N vs) H := by
  have hvl := fn_len _ _ _ _ h
  obtain ⟨P0, F, A, sl, r, sl', G, e, kk⟩ := h
  have e : (if sl.length = ps.length ∧ sl.all argOk = true then (m (sl ++ List.replicate (N.length - ps.length) .non)).bind fun x => exitM ps.length x.1 x.2 else none) = some (r, sl') := e
  split at e
  · rename_i hl
    obtain ⟨⟨fl, ρ'⟩, e1, e2⟩ := Option.bind_eq_some_iff.mp e
    -- the pins: of parameters alone
    let P1 : Gh := ⟨fun i => match sl[i]? with | some (.pin _) => P0 i | _ => none, N.length⟩
    have hP1 : ∀ i v, P1 i = some v → vs[i]? = some v := fun i v hv => by
      have hv : (match sl[i]? with | some (.pin _) => P0 i | _ => none) = some v := hv
      split at hv
      · rename_i t et
        obtain ⟨u, a, b, _⟩ := G.slot i _ et
        rw [hv] at b
        injection b with b
        subst b
        rw [List.getElem?_map] at a
        cases hvi : vs[i]? with
        | none => rw [hvi] at a; cases a
        | some z =>
          rw [hvi] at a
          exact Option.some.inj a
      · cases hv
    have G0 : Good K P1 F A (sl ++ List.replicate (N.length - ps.length) .non) (L2.start N vs) H := by
      refine ⟨G.same, ?_, fun i s es => ?_, fun i h => ?_, G.nd, G.dj, ?_⟩
      · unfold L2.start
        simp
        omega
      · by_cases hi : i < sl.length
        · rw [List.getElem?_append_left hi] at es
          have hh := G.slot i s es
          have ev : (L2.start N vs)[i]? = (vs.map some)[i]? := by
            unfold L2.start
            exact List.getElem?_append_left (by rw [List.length_map]; omega)
          rw [ev]
          cases s with
          | non => exact hh
          | hid => exact absurd (List.all_eq_true.mp hl.2 _ (List.mem_of_getElem? es)) (by simp [argOk])
          | own t => exact hh
          | pin t =>
            obtain ⟨v, a, b, c⟩ := hh
            exact ⟨v, a, by show (match sl[i]? with | some (.pin _) => P0 i | _ => none) = some v; rw [es]; exact b, c⟩
        · rw [List.getElem?_append_right (by omega), List.getElem?_replicate] at es
          split at es
          · cases es
            exact G.out i (by omega)
          · cases es
      · rw [List.length_append] at h
        exact G.out i (by omega)
      · unfold L2.start
        simp
        show vs.length + (N.length - vs.length) = N.length
        omega
    have hP : ∀ i v, P1 i = some v → P0 i = some v := fun i v hv => by
      have hv : (match sl[i]? with | some (.pin _) => P0 i | _ => none) = some v := hv
      split at hv
      · exact hv
      · cases hv
    refine ⟨P1, F, A, _, fl, ρ', G0, e1, fun F1 A1 σ1 H1 G1 E1 => ?_⟩
    -- the end
    have fin : ∀ (v : V) (ρ2 : MS) (t : T) (F2 : Hp) (A2 : Nat → List Addr), Good K P1 F2 A2 ρ2 σ1 H1 → Ext q F A H F2 A2 H1 → Rx K (Nw A H) F2 A2 σ1 H1 v (.val t) → (t, pinsOf ps.length ρ2) = (r, sl') → Q v H1 := fun v ρ2 t F2 A2 G2 E2 R2 ee => by
      injection ee with ee1 ee2
      subst ee1
      have hlen : vs.length ≤ ρ2.length := by
        have h1 := G2.len
        have h2 : σ1.length = N.length := G2.ln
        omega
      obtain ⟨A3, G3, s3⟩ := G2.pins hP1 hlen
      rw [hvl, ee2] at G3
      obtain ⟨S, o, nd, dj, nw⟩ := R2
      exact kk F2 A3 H1 v (G3.weakP hP (by rw [← G.ln])) (E2.shrink s3) ⟨S, o, nd, fun a m i m' => dj a m i (s3 i a m'), nw⟩
    cases fl with
    | nx =>
      injection (show some (T.fr .none, pinsOf ps.length ρ') = some (r, sl') from e2) with e3
      exact fin .non ρ' _ F1 A1 G1 E1 (Rx.val_fr .non) e3
    | bk => cases e2
    | ct => cases e2
    | rt r0 =>
      obtain ⟨⟨t, ρ2⟩, e3, e4⟩ := Option.map_eq_some_iff.mp (show (retT r0 ρ').map (fun y => (y.1, pinsOf ps.length y.2)) = some (r, sl') from e2)
      intro v hv
      obtain ⟨F2, A2, G2, E2, R2⟩ := retT_ok G1 E1 hv e3
      exact fin v ρ2 t F2 A2 G2 E2 R2 e4
  · cases e
theorem fn_ok {x qual : Str} {st : Stmt} {f : Addr} {fd : FuncData} {N ps : List Str} {k : Nat} {q : Bool} {m : M Fl} (Fu : Fun K x qual st f fd) (S : FnScope N ps (defScope st))
    (hb : ∀ (cdv : Value) (A : Around) (outer : List Env) (s : Shared) (H : Hp) (E : XK), Room k (A.deeper (envOfC qual (defScope st) s.heap.objs.size f cdv)) →
      PSs (cxOf CX0 P w K mg base N qual (defScope st) f cdv A outer s H E).nox (defBody st) (tS K q m)) :
    FnOk P w K mg base CX0 (k + 1) f fd ps (spD K q (runFn ps.length N.length m)) := by
  have hpl : ps.length ≤ N.length := by have := congrArg List.length S.pre; rw [List.length_take] at this; omega
  exact Fu.ok S fn_len fun cdv A0 outer s H vs Q E hr h => ⟨_, hb cdv A0 outer s H E hr, fn_enter hpl h⟩
end
end DL

/-! DL6: calls of defs. -/
namespace DL
open PySem PySem.Spec PyProof.Rows L2
section
variable {K : PySem.W.Frag} {P : Gh} {F F' F1 F2 H H' H1 H2 : Hp} {A A' A1 A2 : Nat → List Addr} {ρ ρ' ρ1 ρ2 : MS} {σ σ' : L2.St} {q qa qb qf : Bool} {X : Cx} {pos : Pos}
def ofr (d : PyData) : Sl := .own (.fr d)
abbrev Fn := MS → Option (T × MS)
def eFn (G : Fn) (gs : M (List PyData)) : M R := fun ρ => (gs ρ).bind fun x => (G (x.1.map ofr)).map fun z => (.val z.1, x.2)
theorem args_good {vs : List V} {ds : List PyData} (s : Same F H) (h : DpAll K F vs ds) : Good K ⟨fun _ => none, vs.length⟩ F (fun _ => []) (ds.map ofr) (vs.map some) H :=
  ⟨s, by simp [DpAll.length h], fun i sl e => by
    rw [List.getElem?_map] at e
    obtain ⟨d, e1, e2⟩ := Option.map_eq_some_iff.mp e
    obtain ⟨v, e3, hd⟩ := DpAll.get h e1
    subst e2
    exact ⟨v, by rw [List.getElem?_map, e3]; rfl, .fr hd⟩, (fun _ _ => rfl), (fun _ => List.nodup_nil), (fun i j a m => nomatch m), (by simp)⟩
variable {k : Nat} {f : Addr} {fd : FuncData} {ps : List Str} {G : Fn} {x : Str} {p apos : Pos} {e o : Expr} {es : List Expr} {gs : M (List PyData)} {g : M R}
theorem fn_tr {t : TA} (ha : ∀ σ H Q, tA K q gs σ H Q → t σ H Q) : ∀ σ H Q, tE K q (eFn G gs) σ H Q → t σ H fun vs H1 => spD K qf G vs H1 Q E0 := fun σ H Q ⟨P, F, A, ρ, r, ρ', G0, e, kk⟩ => by
  obtain ⟨⟨ds, ρ1⟩, e1, e2⟩ := Option.bind_eq_some_iff.mp (show ((gs ρ).bind _) = some (r, ρ') from e)
  obtain ⟨⟨z, ps'⟩, e3, e4⟩ := Option.map_eq_some_iff.mp e2
  injection e4 with e5 e6
  subst e5 e6
  refine ha _ _ _ ⟨P, F, A, ρ, ds, ρ1, G0, e1, fun F1 A1 H1 vs G1 E1 hd => ?_⟩
  refine ⟨_, F1, _, _, z, ps', args_good G1.same hd, e3, fun F2 A2 H2 v G2 E2 R2 => ?_⟩
  have nn : ∀ a o, H1 a = some o → ¬ Nw (fun _ => []) H1 a := fun a o e => not_nw e fun _ m => nomatch m
  have gr : Grow F1 H1 F2 H2 := ⟨E2.sF, fun b o e => (E2.frm b (nn b o e)).1.trans e, G2.same, fun b o e => (E2.frm b (nn b o e)).2.1⟩
  obtain ⟨S, oz, nd, _, nw⟩ := R2
  have n : ∀ a ∈ S, H1 a = none := fun a m => (nw a m).elim id fun ⟨_, z⟩ => nomatch z
  exact kk F2 A1 H2 v (G1.grow gr) ((E1.trans (gr.ext (q := true))).le (by simp)) ((G1.newRx oz nd n).le fun a m => E1.nw' m)
theorem e_fn (Fo : FnOk X.prog X.w X.K X.mg X.base CX0 k f fd ps (spD X.K qf G)) (hr : Room k X.A) (hg : Gl X x) (hm : X.mg x = some (.ref f)) (hk : PySem.W.keepIn X.K (.ref f) = true) (hb : Binds X.K fd ps []) (ha : PA X (e :: es) (tA X.K q gs))
    (hdb : (x == ("__debug__" : Str)) = false := by decide) (he : starEach (e :: es) X.env = (false, eval e X.env) :: starEach es X.env := by rfl) (hpl : (backTo pos (starEach es X.env)).any (·.1) = false := by rfl) :
    PE X (.Call (.Name x p) (e :: es) [] pos) (tE X.K q (eFn G gs)) := PE_mono (pe_call Fo hr hg hm hk hb .nil pass0 ha hdb he hpl) fun σ H Q h => by
  have h' := fn_tr (qf := qf) (fun _ _ _ h => h) σ H Q h
  show tA X.K q gs σ H fun vs H1 => spD X.K qf G (vs ++ []) H1 Q E0
  simpa only [List.append_nil] using h'
theorem e_fnN (Fo : FnOk X.prog X.w X.K X.mg X.base CX0 k f fd ps (spD X.K qf G)) (hr : Room k X.A) (hg : Gl X x) (hm : X.mg x = some (.ref f)) (hk : PySem.W.keepIn X.K (.ref f) = true) (hb : Binds X.K fd ps [])
    (hdb : (x == ("__debug__" : Str)) = false := by decide) : PE X (.Call (.Name x p) [] [] pos) (tE X.K true (eFn G aNil)) := PE_mono (pe_call0 Fo hr hg hm hk hb .nil pass0 hdb) fun σ H Q h =>
  fn_tr (t := tNil) (qf := qf) (fun σ H Q h => by
      obtain ⟨P, F, A, ρ, ds, ρ', G, e, k⟩ := h
      injection (show some (([] : List PyData), ρ) = some (ds, ρ') from e) with e
      injection e with e1 e2
      subst e1 e2
      exact k F A H [] G Ext.refl .nil) σ H Q h

/-! ### one argument lent -/
def tL (K : PySem.W.Frag) (q : Bool) (g : M (List PyData × R × List PyData)) : TA := fun σ H Q => ∃ P F A ρ z ρ', Good K P F A ρ σ H ∧ g ρ = some (z, ρ') ∧
  ∀ F' A' H' vs v ws, Good K P F' A' ρ' σ H' → Ext q F A H F' A' H' → DpAll K F' vs z.1 → Rx K (Nw A H) F' A' σ H' v z.2.1 → DpAll K F' ws z.2.2 → Q (vs ++ v :: ws) H'
def lHere (qs : Bool) (g : M R) (gs : M (List PyData)) : M (List PyData × R × List PyData) := fun ρ => (g ρ).bind fun x => (gs x.2).bind fun y => if x.1.waits qs = true then some (([], x.1, y.1), y.2) else none
def lNext (g : M R) (gl : M (List PyData × R × List PyData)) : M (List PyData × R × List PyData) := fun ρ => (fz g ρ).bind fun x => (gl x.2).map fun y => ((x.1 :: y.1.1, y.1.2.1, y.1.2.2), y.2)
variable {gl : M (List PyData × R × List PyData)}
theorem l_here (ha : PE X e (tE X.K qa g)) (hb : PA X es (tA X.K qb gs)) (hs : starEach (e :: es) X.env = (false, eval e X.env) :: starEach es X.env := by rfl) : PA X (e :: es) (tL X.K (qa && qb) (lHere qb g gs)) := PA_mono (pa_cons ha hb hs) fun σ H Q ⟨P, F, A, ρ, z, ρ', G, e, k⟩ => by
  obtain ⟨⟨r, ρ1⟩, e1, e2⟩ := Option.bind_eq_some_iff.mp (show ((g ρ).bind _) = some (z, ρ') from e)
  obtain ⟨⟨ds, ρ2⟩, e3, e4⟩ := Option.bind_eq_some_iff.mp e2
  have e4 : (if r.waits qb = true then some ((([] : List PyData), r, ds), ρ2) else none) = some (z, ρ') := e4
  split at e4
  · rename_i w
    injection e4 with e4
    injection e4 with e5 e6
    subst e5 e6
    refine ⟨P, F, A, ρ, r, ρ1, G, e1, fun F1 A1 H1 v G1 E1 R1 => ?_⟩
    refine ⟨P, F1, A1, ρ1, ds, ρ2, G1, e3, fun F2 A2 H2 vs G2 E2 hd => ?_⟩
    exact k F2 A2 H2 [] v vs G2 (E1.trans E2) .nil (R1.wait E2 w) hd
  · cases e4
theorem l_next (ha : PE X e (tE X.K qa g)) (hb : PA X es (tL X.K qb gl)) (hs : starEach (e :: es) X.env = (false, eval e X.env) :: starEach es X.env := by rfl) : PA X (e :: es) (tL X.K (qa && qb) (lNext g gl)) := PA_mono (pa_cons ha hb hs) fun σ H Q ⟨P, F, A, ρ, z, ρ', G, e, k⟩ => by
  obtain ⟨⟨d, ρ1⟩, e1, e2⟩ := Option.bind_eq_some_iff.mp (show ((fz g ρ).bind _) = some (z, ρ') from e)
  obtain ⟨⟨y, ρ2⟩, e3, e4⟩ := Option.map_eq_some_iff.mp e2
  injection e4 with e5 e6
  subst e5 e6
  refine fz_tr (te := tE X.K qa g) (fun _ _ _ h => h) G e1 fun F1 A1 H1 v G1 E1 hd => ?_
  refine ⟨P, F1, A1, ρ1, y, ρ2, G1, e3, fun F2 A2 H2 vs w ws G2 E2 h1 h2 h3 => ?_⟩
  exact k F2 A2 H2 (v :: vs) w ws G2 (E1.trans E2) (.cons (Dp.mono E2.sF _ _ hd) h1) (h2.le fun a m => E1.nw' m) h3
def eFnL (G : Fn) (gl : M (List PyData × R × List PyData)) : M R := fun ρ => (gl ρ).bind fun x => match x.1.2.1 with
  | .val t => (G (x.1.1.map ofr ++ .own t :: x.1.2.2.map ofr)).map fun z => (.val z.1, x.2)
  | .bor i p => x.2[i]?.bind fun s => s.tree?.bind fun t0 => (t0.get p).bind fun t => (G (x.1.1.map ofr ++ .pin t :: x.1.2.2.map ofr)).bind fun z => match z.2[x.1.1.length]? with
    | some (.pin t') => some (.val z.1, x.2.set i (s.with (t0.put p t')))
    | _ => none
/-- the slots of a call with one argument lent -/
theorem args_lent {vs ws : List V} {ds es : List PyData} {v : V} {t : T} {S : List Addr} {sl : Sl} {pn : Nat → Option V} (s : Same F H) (h1 : DpAll K F vs ds) (h2 : DpAll K F ws es) (o : Ow K F H v t S) (nd : S.Nodup)
    (hs : (sl = .own t) ∨ (sl = .pin t ∧ pn vs.length = some v)) :
    Good K ⟨pn, (vs ++ v :: ws).length⟩ F (fun i => if i = vs.length then S else []) (ds.map ofr ++ sl :: es.map ofr) ((vs ++ v :: ws).map some) H := by
  have hl := DpAll.length h1
  have hl2 := DpAll.length h2
  refine ⟨s, by simp [hl, hl2], fun i u e => ?_, fun i h => ?_, fun i => ?_, fun i j a m m' => ?_, by simp⟩
  · by_cases hi : i < ds.length
    · rw [List.getElem?_append_left (by simpa using hi), List.getElem?_map] at e
      obtain ⟨d, e1, e2⟩ := Option.map_eq_some_iff.mp e
      obtain ⟨z, e3, hd⟩ := DpAll.get h1 e1
      subst e2
      rw [if_neg (by omega)]
      exact ⟨z, by rw [List.getElem?_map, List.getElem?_append_left (by omega), e3]; rfl, .fr hd⟩
    · by_cases he : i = ds.length
      · subst he
        rw [List.getElem?_append_right (by simp)] at e
        simp at e
        subst e
        rw [if_pos hl.symm]
        have ev : ((vs ++ v :: ws).map some)[ds.length]? = some (some v) := by
          rw [← hl, List.getElem?_map, List.getElem?_append_right (Nat.le_refl _)]
          simp
        rcases hs with rfl | ⟨rfl, hp⟩
        · exact ⟨v, ev, o⟩
        · exact ⟨v, ev, by rw [← hl]; exact hp, o⟩
      · rw [List.getElem?_append_right (by simp; omega), List.length_map] at e
        obtain ⟨j, hj⟩ : ∃ j, i - ds.length = j + 1 := ⟨i - ds.length - 1, by omega⟩
        rw [hj, List.getElem?_cons_succ, List.getElem?_map] at e
        obtain ⟨d, e1, e2⟩ := Option.map_eq_some_iff.mp e
        obtain ⟨z, e3, hd⟩ := DpAll.get h2 e1
        subst e2
        rw [if_neg (by omega)]
        exact ⟨z, by rw [List.getElem?_map, List.getElem?_append_right (by omega), hl, hj, List.getElem?_cons_succ, e3]; rfl, .fr hd⟩
  · simp at h
    rw [if_neg (by omega)]
  · show List.Nodup (if i = vs.length then S else [])
    split
    · exact nd
    · exact List.nodup_nil
  · have m : a ∈ (if i = vs.length then S else []) := m
    have m' : a ∈ (if j = vs.length then S else []) := m'
    split at m
    · split at m'
      · rename_i h h'; exact h.trans h'.symm
      · cases m'
    · cases m
/-- what a call leaves as it was: every slot but the one lent from -/
def KeptBut (K : PySem.W.Frag) (P : Gh) (F : Hp) (A : Nat → List Addr) (σ : L2.St) (H : Hp) (q : Bool) (gl : M (List PyData × R × List PyData)) (ρ ρ' : MS) (H' : Hp) : Prop :=
  ∃ z ρ1 F1 A1 H1, gl ρ = some (z, ρ1) ∧ Good K P F1 A1 ρ1 σ H1 ∧ Ext q F A H F1 A1 H1 ∧ ∀ i, (∀ p, z.2.1 ≠ .bor i p) → ρ'[i]? = ρ1[i]? ∧ ∀ a ∈ A1 i, H' a = H1 a
theorem fnL_trK {t : TA} (ha : ∀ σ H Q, tL K q gl σ H Q → t σ H Q) (hq : q' = true → q = true ∧ qf = true) : ∀ σ H Q, (∃ P F A ρ r ρ', Good K P F A ρ σ H ∧ eFnL G gl ρ = some (r, ρ') ∧
    ∀ F' A' H' v, Good K P F' A' ρ' σ H' → Ext q' F A H F' A' H' → Rx K (Nw A H) F' A' σ H' v r → KeptBut K P F A σ H q gl ρ ρ' H' → Q v H') → t σ H fun vs H1 => spD K qf G vs H1 Q E0 := fun σ H Q ⟨P, F, A, ρ, r, ρ', G0, e, kk⟩ => by
  obtain ⟨⟨⟨ds, r0, es⟩, ρ1⟩, e1, e2⟩ := Option.bind_eq_some_iff.mp (show ((gl ρ).bind _) = some (r, ρ') from e)
  refine ha _ _ _ ⟨P, F, A, ρ, _, ρ1, G0, e1, fun F1 A1 H1 vs v ws G1 E1 hd R1 he => ?_⟩
  cases r0 with
  | val t =>
    obtain ⟨⟨z, ps'⟩, e3, e4⟩ := Option.map_eq_some_iff.mp (show ((G (ds.map ofr ++ .own t :: es.map ofr)).map fun z => (R.val z.1, ρ1)) = some (r, ρ') from e2)
    injection e4 with e5 e6
    subst e5 e6
    obtain ⟨S, o, nd, dj, nw⟩ := R1
    refine ⟨_, F1, _, _, z, ps', args_lent (pn := fun _ => none) G1.same hd he o nd (.inl rfl), e3, fun F2 A2 H2 u G2 E2 R2 => ?_⟩
    -- what was there and not lent stays
    have nn : ∀ a o, a ∉ S → H1 a = some o → ¬ Nw (fun i => if i = vs.length then S else []) H1 a := fun a o n e => not_nw e fun i m => by
      have m : a ∈ (if i = vs.length then S else []) := m
      split at m
      · exact n m
      · cases m
    have G3 : Good K P F2 A1 ρ1 σ H2 := ⟨G2.same, G1.len, fun i s es => (G1.slot i s es).keep E2.sF fun a m => by
      obtain ⟨f, ob, eb⟩ := G1.noF i a m
      obtain ⟨h2, f2, _⟩ := E2.frm a (nn a ob (fun z => dj a z i m) eb)
      exact ⟨f2.trans f, h2⟩, G1.out, G1.nd, G1.dj, G1.ln⟩
    obtain ⟨S2, oz, nd2, _, nw2⟩ := R2
    have src : ∀ a, Nw (fun i => if i = vs.length then S else []) H1 a → H1 a = none ∨ a ∈ S := fun a z => by
      rcases z with z | ⟨i, z⟩
      · exact .inl z
      · have z : a ∈ (if i = vs.length then S else []) := z
        split at z
        · exact .inr z
        · cases z
    refine kk F2 A1 H2 u G3 ⟨E1.sF.trans E2.sF, fun a n => ?_, fun hz => (E1.qt (hq hz).1).trans (E2.qt (hq hz).2)⟩ ⟨S2, oz, nd2, fun a m i m' => ?_, fun a m => ?_⟩ ⟨_, _, F1, A1, H1, e1, G1, E1, fun i _ => ⟨rfl, fun a m => ?_⟩⟩
    · obtain ⟨h1, f1, n1⟩ := E1.frm a n
      obtain ⟨⟨ob, eb⟩, _⟩ := of_not_nw n
      obtain ⟨h2, f2, _⟩ := E2.frm a (nn a ob (fun m => n (nw a m)) (h1.trans eb))
      exact ⟨h2.trans h1, f2.trans f1, n1⟩
    · obtain ⟨f, ob, eb⟩ := G1.noF i a m'
      rcases src a (nw2 a m) with z | z
      · rw [z] at eb; cases eb
      · exact dj a z i m'
    · rcases src a (nw2 a m) with z | z
      · exact E1.nw' (.inl z)
      · exact nw a z
    · obtain ⟨f, ob, eb⟩ := G1.noF i a m
      exact (E2.frm a (nn a ob (fun z => dj a z i m) eb)).1
  | bor i p =>
    have e2 : (ρ1[i]?.bind fun s => s.tree?.bind fun t0 => (t0.get p).bind fun t => (G (ds.map ofr ++ .pin t :: es.map ofr)).bind fun z => match z.2[ds.length]? with
      | some (.pin t') => some (R.val z.1, ρ1.set i (s.with (t0.put p t')))
      | _ => none) = some (r, ρ') := e2
    obtain ⟨s, es', e3⟩ := Option.bind_eq_some_iff.mp e2
    obtain ⟨t0, et, e4⟩ := Option.bind_eq_some_iff.mp e3
    obtain ⟨t, egt, e5⟩ := Option.bind_eq_some_iff.mp e4
    obtain ⟨⟨z, ps'⟩, e6, e7⟩ := Option.bind_eq_some_iff.mp e5
    obtain ⟨v0, ev, va⟩ := R1
    obtain ⟨v1, ev1, o, back⟩ := G1.slotTree es' et
    rw [ev] at ev1
    injection ev1 with ev1
    injection ev1 with ev1
    subst ev1
    obtain ⟨w, S, hw, ow, nd, sub, put⟩ := Ow.zoom (p := p) o (G1.nd i) egt
    have := va.inj hw
    subst this
    refine ⟨_, F1, _, _, z, ps', args_lent (pn := fun j => if j = vs.length then some v else none) G1.same hd he ow nd (.inr ⟨rfl, if_pos rfl⟩), e6, fun F2 A2 H2 u G2 E2 R2 => ?_⟩
    have nn : ∀ a o, a ∉ S → H1 a = some o → ¬ Nw (fun i => if i = vs.length then S else []) H1 a := fun a o n e => not_nw e fun i m => by
      have m : a ∈ (if i = vs.length then S else []) := m
      split at m
      · exact n m
      · cases m
    have src : ∀ a, Nw (fun i => if i = vs.length then S else []) H1 a → H1 a = none ∨ a ∈ S := fun a z => by
      rcases z with z | ⟨i, z⟩
      · exact .inl z
      · have z : a ∈ (if i = vs.length then S else []) := z
        split at z
        · exact .inr z
        · cases z
    have e7 : (match ps'[ds.length]? with
      | some (.pin t') => some (R.val z, ρ1.set i (s.with (t0.put p t')))
      | _ => none) = some (r, ρ') := e7
    split at e7
    · rename_i t' ep
      injection e7 with e7
      injection e7 with e8 e9
      subst e8 e9
      obtain ⟨v2, ev2, epin, o2⟩ := G2.slot _ _ ep
      have hv2 : v2 = v := by
        have hl := DpAll.length hd
        have epin : (if ds.length = vs.length then some v else none) = some v2 := epin
        rw [if_pos hl.symm] at epin
        exact (Option.some.inj epin).symm
      subst hv2
      have inS2 : ∀ a ∈ A2 ds.length, H1 a = none ∨ a ∈ S := fun a m => src a (E2.nw' (.inr ⟨_, m⟩))
      have keepA : ∀ a ∈ A1 i, a ∉ S → F2 a = none ∧ H2 a = H1 a := fun a m n => by
        obtain ⟨f, ob, eb⟩ := G1.noF i a m
        obtain ⟨h2, f2, _⟩ := E2.frm a (nn a ob n eb)
        exact ⟨f2.trans f, h2⟩
      have dA : ∀ a ∈ A2 ds.length, ∀ j, a ∈ A1 j → a ∈ S := fun a m j m' => by
        rcases inS2 a m with z | z
        · obtain ⟨_, ob, eb⟩ := G1.noF j a m'
          rw [z] at eb; cases eb
        · exact z
      obtain ⟨S', o', nd', src'⟩ := put F2 H2 t' (A2 ds.length) E2.sF keepA o2 (G2.nd _) (fun a m m' => dA a m i m')
      have where' : ∀ a ∈ S', a ∈ A2 ds.length ∨ (a ∈ A1 i ∧ a ∉ S) := src'
      have G3 : Good K P F2 (updA A1 i S') (ρ1.set i (s.with (t0.put p t'))) σ H2 := by
        refine G1.upd (List.getElem?_eq_some_iff.mp es').1 E2.sF G2.same (fun j hj a m => ?_) rfl (fun _ _ => rfl) (back _ _ _ _ o') nd' fun a m j hj m' => ?_
        · obtain ⟨f, ob, eb⟩ := G1.noF j a m
          obtain ⟨h2, f2, _⟩ := E2.frm a (nn a ob (fun z => hj (G1.dj j i a m (sub a z))) eb)
          exact ⟨f2.trans f, h2⟩
        · rcases where' a m with z | z
          · exact hj (G1.dj j i a m' (sub a (dA a z j m')))
          · exact hj (G1.dj j i a m' z.1)
      obtain ⟨S2, oz, nd2, dj2, nw2⟩ := R2
      have NW : ∀ a, H1 a = none ∨ a ∈ S → Nw A H a := fun a m => by
        rcases m with m | m
        · exact E1.nw' (.inl m)
        · exact E1.nw' (.inr ⟨i, sub a m⟩)
      refine kk F2 _ H2 u G3 ⟨E1.sF.trans E2.sF, fun a n => ?_, fun hz => (E1.qt (hq hz).1).trans (E2.qt (hq hz).2)⟩ ⟨S2, oz, nd2, fun a m j m' => ?_, fun a m => NW a (src a (nw2 a m))⟩ ⟨_, _, F1, A1, H1, e1, G1, E1, fun i' hn => ?_⟩
      · obtain ⟨h1, f1, n1⟩ := E1.frm a n
        obtain ⟨⟨ob, eb⟩, _⟩ := of_not_nw n
        have hnS : a ∉ S := fun m => n (NW a (.inr m))
        obtain ⟨h2, f2, n2⟩ := E2.frm a (nn a ob hnS (h1.trans eb))
        refine ⟨h2.trans h1, f2.trans f1, fun j => ?_⟩
        by_cases hj : j = i
        · subst hj
          rw [updA_same]
          intro m
          rcases where' a m with y | y
          · exact n2 _ y
          · exact n1 j y.1
        · rw [updA_ne hj]
          exact n1 j
      · by_cases hj : j = i
        · subst hj
          rw [updA_same] at m'
          rcases where' a m' with y | y
          · exact dj2 a m _ y
          · rcases src a (nw2 a m) with x | x
            · obtain ⟨_, ob, eb⟩ := G1.noF j a y.1
              rw [x] at eb; cases eb
            · exact y.2 x
        · rw [updA_ne hj] at m'
          rcases src a (nw2 a m) with x | x
          · obtain ⟨_, ob, eb⟩ := G1.noF j a m'
            rw [x] at eb; cases eb
          · exact hj (G1.dj j i a m' (sub a x))
      · have hne : i' ≠ i := fun z => hn p (by rw [z])
        refine ⟨List.getElem?_set_ne (Ne.symm hne), fun a m => ?_⟩
        obtain ⟨f, ob, eb⟩ := G1.noF i' a m
        exact (E2.frm a (nn a ob (fun z => hne (G1.dj i' i a m (sub a z))) eb)).1
    · cases e7
theorem fnL_tr {t : TA} (ha : ∀ σ H Q, tL K q gl σ H Q → t σ H Q) (hq : q' = true → q = true ∧ qf = true) : ∀ σ H Q, tE K q' (eFnL G gl) σ H Q → t σ H fun vs H1 => spD K qf G vs H1 Q E0 := fun σ H Q ⟨P, F, A, ρ, r, ρ', G0, e, kk⟩ =>
  fnL_trK ha hq σ H Q ⟨P, F, A, ρ, r, ρ', G0, e, fun F' A' H' v g x rx _ => kk F' A' H' v g x rx⟩
theorem e_fnL (Fo : FnOk X.prog X.w X.K X.mg X.base CX0 k f fd ps (spD X.K qf G)) (hr : Room k X.A) (hg : Gl X x) (hm : X.mg x = some (.ref f)) (hk : PySem.W.keepIn X.K (.ref f) = true) (hb : Binds X.K fd ps []) (ha : PA X (e :: es) (tL X.K q gl))
    (hdb : (x == ("__debug__" : Str)) = false := by decide) (he : starEach (e :: es) X.env = (false, eval e X.env) :: starEach es X.env := by rfl) (hpl : (backTo pos (starEach es X.env)).any (·.1) = false := by rfl) :
    PE X (.Call (.Name x p) (e :: es) [] pos) (tE X.K (q && qf) (eFnL G gl)) := PE_mono (pe_call Fo hr hg hm hk hb .nil pass0 ha hdb he hpl) fun σ H Q h => by
  have h' := fnL_tr (qf := qf) (t := tL X.K q gl) (fun _ _ _ h => h) (fun z => Bool.and_eq_true_iff.mp z) σ H Q h
  show tL X.K q gl σ H fun vs H1 => spD X.K qf G (vs ++ []) H1 Q E0
  simpa only [List.append_nil] using h'
end
end DL

/-! DL7: what is walked; for, while; list comprehensions. -/
namespace DL
open PySem PySem.Spec PyProof.Rows L2
section
variable {K : PySem.W.Frag} {P P' : Gh} {F F' F1 F2 H H' H1 H2 : Hp} {A A' A1 A2 : Nat → List Addr} {ρ ρ' ρ1 ρ2 ρ3 : MS} {σ σ' σ2 : L2.St} {q qa qb : Bool} {X : Cx} {pos : Pos}
theorem zip_inj {ks js : List Key} {xs ys : List V} (h1 : ks.length = xs.length) (h2 : js.length = ys.length) (e : ks.zip xs = js.zip ys) : xs = ys := by
  rw [← zip_snd h1, ← zip_snd h2, e]
mutual
theorem Ow.inj : ∀ (t : T) (v : V) (S S' : List Addr), Ow K F H v t S → Ow K F H v t S' → S = S'
  | .fr d, _, _, _, h, h' => by cases h; cases h'; rfl
  | .lst ts, _, _, _, h, h' => by
    cases h with
    | lst a b c =>
      cases h' with
      | lst a' b' c' =>
        rw [b] at b'
        injection b' with b'
        injection b' with b'
        subst b'
        rw [OwAll.inj ts _ _ _ c c']
  | .tup ts, _, _, _, h, h' => by
    cases h with
    | tup a b c =>
      cases h' with
      | tup a' b' c' =>
        rw [b] at b'
        injection b' with b'
        injection b' with b'
        subst b'
        rw [OwAll.inj ts _ _ _ c c']
  | .dic ks ts, _, _, _, h, h' => by
    cases h with
    | dic a b hz c =>
      cases h' with
      | dic a' b' hz' c' =>
        rw [b] at b'
        injection b' with b'
        injection b' with b'
        have := zip_inj hz hz' b'
        subst this
        rw [OwAll.inj ts _ _ _ c c']
  | .scr ds, _, _, _, h, h' => by cases h; cases h'; rfl
theorem OwAll.inj : ∀ (ts : List T) (vs : List V) (S S' : List Addr), OwAll K F H vs ts S → OwAll K F H vs ts S' → S = S'
  | [], _, _, _, h, h' => by cases h; cases h'; rfl
  | t :: ts, _, _, _, h, h' => by
    cases h with
    | cons a b =>
      cases h' with
      | cons a' b' => rw [Ow.inj t _ _ _ a a', OwAll.inj ts _ _ _ b b']
end
theorem Ow.addrs {t : T} {v : V} {S S' : List Addr} {a : Addr} (h : Ow K F H v t S) (h' : Ow K F H v t S') (m : a ∈ S') : a ∈ S := by rw [Ow.inj t v S S' h h']; exact m
/-- an iterator gives the data ds, as long as nothing old is changed -/
structure WalkD (K : PySem.W.Frag) (J : It) (N : Addr → Prop) (F0 H0 : Hp) (ds : List PyData) : Prop where
  goes : ∀ i H, i < ds.length → (∀ a, ¬ N a → H a = H0 a) → J.go i H
  stops : ∀ H, (∀ a, ¬ N a → H a = H0 a) → J.stop ds.length H
  yields : ∀ i d F H x H', ds[i]? = some d → (∀ a, ¬ N a → H a = H0 a) → Same F0 F → Same F H → J.yld i H x H' → ∃ F', Grow F H F' H' ∧ Dp K F' x d
abbrev Src := M (List PyData × Option Nat)
def hideM (hd : Option Nat) (ρ : MS) : MS := match hd with
  | none => ρ
  | some i => ρ.set i .hid
def unhide (hd : Option Nat) (ρ0 ρ : MS) : Option MS := match hd with
  | none => some ρ
  | some i => match ρ[i]?, ρ0[i]? with
    | some .hid, some s => some (ρ.set i s)
    | _, _ => none
/-- what was hidden comes back -/
def Back (K : PySem.W.Frag) (P P' : Gh) (N : Addr → Prop) (F' : Hp) (A' : Nat → List Addr) (H' : Hp) (hd : Option Nat) (ρ0 : MS) : Prop :=
  ∀ F2 A2 ρ2 σ2 H2 ρ3, Good K P' F2 A2 ρ2 σ2 H2 → Same F' F2 → (∀ a, N a → ¬ Nw A' H' a → H2 a = H' a ∧ F2 a = F' a ∧ ∀ i, a ∉ A2 i) → unhide hd ρ0 ρ2 = some ρ3 →
    ∃ A3, Good K P F2 A3 ρ3 σ2 H2 ∧ ∀ j a, a ∈ A3 j → a ∈ A2 j ∨ (N a ∧ ¬ Nw A' H' a)
def tI (K : PySem.W.Frag) (q : Bool) (src : Src) : TI := fun σ H R => ∃ P F A ρ z ρ', Good K P F A ρ σ H ∧ src ρ = some (z, ρ') ∧
  ∀ P' F' A' H' J N, Good K P' F' A' (hideM z.2 ρ') σ H' → Ext q F A H F' A' H' → WalkD K J N F' H' z.1 → Back K P P' (Nw A H) F' A' H' z.2 ρ' → (∀ a, Nw A' H' a → N a) → (∀ a, ¬ Nw A H a → F' a = none → N a) → R J H'
theorem Good.chgP (G : Good K P F A ρ σ H) (h : ∀ i s, ρ[i]? = some s → (∀ t, s = .pin t → P'.pin i = P.pin i) ∧ (s = .hid → P'.pin i = P.pin i)) (hn : P'.n = P.n) : Good K P' F A ρ σ H :=
  ⟨G.same, G.len, fun i s e => by
    have hh := G.slot i s e
    have h := h i s e
    cases s with
    | non => exact hh
    | hid => obtain ⟨a, v, b, c⟩ := hh; exact ⟨a, v, b, (h.2 rfl).trans c⟩
    | own t => exact hh
    | pin t => obtain ⟨v, a, b, c⟩ := hh; exact ⟨v, a, (h.1 t rfl).trans b, c⟩, G.out, G.nd, G.dj, G.ln.trans hn.symm⟩
theorem back_none {N : Addr → Prop} : Back K P P N F' A' H' none ρ' := fun F2 A2 ρ2 σ2 H2 ρ3 G _ _ e => by
  have e := Option.some.inj (show some ρ2 = some ρ3 from e)
  subst e
  exact ⟨A2, G, fun j a m => .inl m⟩
/-- a slot that owns something is hidden -/
theorem hide_ok {N : Addr → Prop} {i : Nat} {s : Sl} {t : T} (G : Good K P F1 A1 ρ1 σ H1) (es : ρ1[i]? = some s) (et : s.tree? = some t) (hN : ∀ a ∈ A1 i, N a) :
    ∃ P', Good K P' F1 (updA A1 i []) (ρ1.set i .hid) σ H1 ∧ Back K P P' N F1 (updA A1 i []) H1 (some i) ρ1 := by
  obtain ⟨v, ev, o, back⟩ := G.slotTree es et
  have hi := (List.getElem?_eq_some_iff.mp es).1
  let P' : Gh := ⟨fun j => if j = i then some v else P.pin j, P.n⟩
  have hpi : s = .pin t → P.pin i = some v := fun hs => by
    subst hs
    obtain ⟨v', a, b, _⟩ := G.slot i _ es
    rw [ev] at a
    injection a with a
    injection a with a
    subst a
    exact b
  have GP : Good K P' F1 A1 ρ1 σ H1 := G.chgP (fun j s' e' => by
    by_cases hj : j = i
    · subst hj
      rw [es] at e'
      cases e'
      refine ⟨fun t' hs => ?_, fun hs => ?_⟩
      · subst hs
        cases et
        show (if j = j then some v else P.pin j) = P.pin j
        rw [if_pos rfl, hpi rfl]
      · subst hs; cases et
    · have : P'.pin j = P.pin j := if_neg hj
      exact ⟨fun _ _ => this, fun _ => this⟩) rfl
  refine ⟨P', GP.upd hi (Same.refl F1) G.same (fun j _ a m => ⟨(G.noF j a m).1, rfl⟩) rfl (fun _ _ => rfl) ⟨rfl, v, ev, if_pos rfl⟩ List.nodup_nil (fun a m => nomatch m), fun F2 A2 ρ2 σ2 H2 ρ3 G2 sF frm e => ?_⟩
  have e : (match ρ2[i]?, ρ1[i]? with
    | some .hid, some s => some (ρ2.set i s)
    | _, _ => none) = some ρ3 := e
  rw [es] at e
  split at e
  · rename_i s' eh es'
    injection es' with es'
    subst es'
    have e := Option.some.inj e
    subst e
    obtain ⟨hA, v', ev', ep⟩ := G2.slot i _ eh
    have : v' = v := by
      have ep : (if i = i then some v else P.pin i) = some v' := ep
      rw [if_pos rfl] at ep
      exact (Option.some.inj ep).symm
    subst this
    have old : ∀ a ∈ A1 i, ¬ Nw (updA A1 i []) H1 a := fun a m => by
      obtain ⟨_, ob, eb⟩ := G.noF i a m
      refine not_nw eb fun j mj => ?_
      by_cases hj : j = i
      · subst hj; rw [updA_same] at mj; cases mj
      · rw [updA_ne hj] at mj; exact hj (G.dj j i a mj m)
    have hi2 := (List.getElem?_eq_some_iff.mp eh).1
    have o2 : Ow K F2 H2 v' t (A1 i) := Ow.mono sF t v' _ (fun a m => ⟨(frm a (hN a m) (old a m)).2.1.trans (G.noF i a m).1, (frm a (hN a m) (old a m)).1⟩) o
    have G3 : Good K P' F2 (updA A2 i (A1 i)) (ρ2.set i s) σ2 H2 := by
      refine G2.upd hi2 (Same.refl F2) G2.same (fun j _ a m => ⟨(G2.noF j a m).1, rfl⟩) rfl (fun _ _ => rfl) ?_ (G.nd i) fun a m j _ m' => (frm a (hN a m) (old a m)).2.2 j m'
      cases s with
      | non => cases et
      | hid => cases et
      | own u => cases et; exact ⟨v', ev', o2⟩
      | pin u => cases et; exact ⟨v', ev', if_pos rfl, o2⟩
    refine ⟨_, G3.chgP (fun j s' e' => ?_) rfl, fun j a m => ?_⟩
    · by_cases hj : j = i
      · subst hj
        rw [List.getElem?_set_self hi2] at e'
        cases e'
        refine ⟨fun t' hs => ?_, fun hs => ?_⟩
        · subst hs
          cases et
          show P.pin j = (if j = j then some v' else P.pin j)
          rw [if_pos rfl, hpi rfl]
        · subst hs; cases et
      · have : P.pin j = P'.pin j := (if_neg hj).symm
        exact ⟨fun _ _ => this, fun _ => this⟩
    · by_cases hj : j = i
      · subst hj
        rw [updA_same] at m
        exact .inr ⟨hN a m, old a m⟩
      · rw [updA_ne hj] at m
        exact .inl m
  · cases e

/-! ### sources -/
variable {g ga gb : M R} {e a b : Expr} {tg : Expr}
def hideOf : R → Option Nat
  | .val _ => none
  | .bor i _ => some i
/-- a thing with items, walked where it stands -/
def srcV (view : T → Option (List PyData)) (g : M R) : Src := fun ρ => (g ρ).bind fun x => (look x.2 x.1).bind fun t => (view t).map fun ds => ((ds, hideOf x.1), x.2)
theorem src_tr {view : T → Option (List PyData)} {r : V → Hp → (It → Hp → Prop) → Prop}
    (hr : ∀ v F (N : Addr → Prop) H t ds R, Same F H → Rd K F H v t → view t = some ds → (∀ S, Ow K F H v t S → ∀ a ∈ S, ¬ N a) → (∀ a, (∃ o, F a = some o) → ¬ N a) → (∀ J, WalkD K J N F H ds → R J H) → r v H R) :
    ∀ σ H R, tI K q (srcV view g) σ H R → tE K q g σ H fun v H1 => r v H1 R := fun σ H R ⟨P, F, A, ρ, z, ρ', G, e, k⟩ => by
  obtain ⟨⟨x, ρ1⟩, e1, e2⟩ := Option.bind_eq_some_iff.mp (show ((g ρ).bind _) = some (z, ρ') from e)
  obtain ⟨t, e3, e4⟩ := Option.bind_eq_some_iff.mp e2
  obtain ⟨ds, e5, e6⟩ := Option.map_eq_some_iff.mp e4
  injection e6 with e7 e8
  subst e7 e8
  refine ⟨P, F, A, ρ, x, ρ1, G, e1, fun F1 A1 H1 v G1 E1 R1 => ?_⟩
  cases x with
  | val u =>
    have e3 : u = t := Option.some.inj e3
    subst e3
    obtain ⟨S, o, nd, dj, nw⟩ := R1
    have offS : ∀ a, Nw A1 H1 a → a ∉ S := fun a n m => by
      obtain ⟨_, ob, eb⟩ := Ow.inS u v S o a m
      exact not_nw eb (fun i mi => dj a m i mi) n
    refine hr v F1 (fun a => F1 a = none ∧ a ∉ S) H1 u ds R G1.same ⟨S, o⟩ e5 (fun S' o' a m n => n.2 (Ow.addrs o o' m)) (fun a ⟨ob, eo⟩ n => by rw [n.1] at eo; cases eo) fun J w => k P F1 A1 H1 J _ G1 E1 w back_none (fun a n => ⟨?_, offS a n⟩) (fun a n f => ⟨f, fun m => n (nw a m)⟩)
    rcases n with n | ⟨i, n⟩
    · exact G1.same.free n
    · exact (G1.noF i a n).1
  | bor i p =>
    obtain ⟨v0, ev, va⟩ := R1
    obtain ⟨t0, et, eg⟩ := Option.bind_eq_some_iff.mp (show (ρ1[i]?.bind Sl.tree?).bind (fun t => t.get p) = some t from e3)
    obtain ⟨s, es, et⟩ := Option.bind_eq_some_iff.mp et
    obtain ⟨P', G2, B⟩ := hide_ok (N := Nw A H) G1 es et fun a m => E1.nw' (.inr ⟨i, m⟩)
    obtain ⟨v1, ev1, o, _⟩ := G1.slotTree es et
    rw [ev] at ev1
    injection ev1 with ev1
    injection ev1 with ev1
    subst ev1
    obtain ⟨w, S1, hw, ow, nd1, sub, _⟩ := Ow.zoom (p := p) o (G1.nd i) eg
    have := va.inj hw
    subst this
    have offS : ∀ a, Nw (updA A1 i []) H1 a → a ∉ S1 := fun a n m => by
      obtain ⟨_, ob, eb⟩ := Ow.inS t v S1 ow a m
      refine not_nw eb (fun j mj => ?_) n
      by_cases hj : j = i
      · subst hj; rw [updA_same] at mj; cases mj
      · rw [updA_ne hj] at mj; exact hj (G1.dj j i a mj (sub a m))
    refine hr v F1 (fun a => F1 a = none ∧ a ∉ S1) H1 t ds R G1.same ⟨S1, ow⟩ e5 (fun S' o' a m n => n.2 (Ow.addrs ow o' m)) (fun a ⟨ob, eo⟩ n => by rw [n.1] at eo; cases eo) fun J w => k P' F1 _ H1 J _ G2 (E1.shrink fun j a m => ?_) w B (fun a n => ⟨?_, offS a n⟩) (fun a n f => ⟨f, fun m => n (E1.nw' (.inr ⟨i, sub a m⟩))⟩)
    · by_cases hj : j = i
      · subst hj; rw [updA_same] at m; cases m
      · rw [updA_ne hj] at m; exact m
    · rcases n with n | ⟨j, n⟩
      · exact G1.same.free n
      · exact (G2.noF j a n).1

/-- what a list's value reads, kept where nothing old is changed -/
theorem list_keep {v : V} {t : T} {ds : List PyData} {N : Addr → Prop} (s : Same F H) (h : Rd K F H v t) (e : t.asList = some ds) (h1 : ∀ S, Ow K F H v t S → ∀ a ∈ S, ¬ N a) (h2 : ∀ a, (∃ o, F a = some o) → ¬ N a) :
    ∃ a xs, v = .ref a ∧ SqL K H a xs ∧ DpAll K F xs ds ∧ ∀ H', (∀ b, ¬ N b → H' b = H b) → SqL K H' a xs := by
  have fz : ∀ a xs, v = .ref a → SqL K F a xs → DpAll K F xs ds → ∃ a xs, v = .ref a ∧ SqL K H a xs ∧ DpAll K F xs ds ∧ ∀ H', (∀ b, ¬ N b → H' b = H b) → SqL K H' a xs := fun a xs hv sq da => by
    refine ⟨a, xs, hv, s.seq sq, da, fun H' k => ?_⟩
    rcases sq with (q | ⟨o, q⟩) | q
    · exact .inl (.inl ((k _ (h2 _ ⟨_, q⟩)).trans (s _ _ q)))
    · exact .inl (.inr ⟨o, (k _ (h2 _ ⟨_, q⟩)).trans (s _ _ q)⟩)
    · exact .inr q
  unfold T.asList at e
  split at e
  · cases e
    cases h.fr with
    | lst a b => exact fz _ _ rfl (.of a) b
  · obtain ⟨S, o⟩ := h
    rw [of_frs e] at o h1
    cases o with
    | lst a b c =>
      refine ⟨_, _, rfl, .of b, (OwAll.of_frs c).1, fun H' k => .of ((k _ (h1 _ (.lst a b c) _ List.mem_cons_self)).trans b)⟩
  · cases e
    obtain ⟨S, o⟩ := h
    cases o with
    | scr a b => exact fz _ _ rfl a b
  · cases e
theorem tup_keep {v : V} {t : T} {ds : List PyData} {N : Addr → Prop} (s : Same F H) (h : Rd K F H v t) (e : t.asTup = some ds) (h1 : ∀ S, Ow K F H v t S → ∀ a ∈ S, ¬ N a) (h2 : ∀ a, (∃ o, F a = some o) → ¬ N a) :
    ∃ a xs, v = .ref a ∧ SqT K H a xs ∧ DpAll K F xs ds ∧ ∀ H', (∀ b, ¬ N b → H' b = H b) → SqT K H' a xs := by
  have fz : ∀ d, d = PyData.tuple ds → Dp K F v d → ∃ a xs, v = .ref a ∧ SqT K H a xs ∧ DpAll K F xs ds ∧ ∀ H', (∀ b, ¬ N b → H' b = H b) → SqT K H' a xs := fun d ed hd => by
    subst ed
    cases hd with
    | tup sq da =>
      refine ⟨_, _, rfl, SqT.same s sq, da, fun H' k => ?_⟩
      rcases sq with (q | ⟨o, q⟩) | q
      · exact .inl (.inl ((k _ (h2 _ ⟨_, q⟩)).trans (s _ _ q)))
      · exact .inl (.inr ⟨o, (k _ (h2 _ ⟨_, q⟩)).trans (s _ _ q)⟩)
      · exact .inr q
  unfold T.asTup at e
  split at e
  · cases e
    exact fz _ rfl h.fr
  · obtain ⟨S, o⟩ := h
    rw [of_frs e] at o h1
    cases o with
    | tup a b c =>
      refine ⟨_, _, rfl, .of b, (OwAll.of_frs c).1, fun H' k => .of ((k _ (h1 _ (.tup a b c) _ List.mem_cons_self)).trans b)⟩
  · cases e
theorem DpAll.at {xs : List V} {ds : List PyData} {i : Nat} {x : V} {d : PyData} (h : DpAll K F xs ds) (e : xs[i]? = some x) (e2 : ds[i]? = some d) : Dp K F x d := by
  obtain ⟨v, a, b⟩ := DpAll.get h e2
  rw [e] at a
  cases a
  exact b
theorem PI_mono {tg l : Expr} {w w' : TI} (h : PI X tg l w) (m : ∀ σ H R, w' σ H R → w σ H R) : PI X tg l w' := ⟨fun pins s σ H R I q => h.run pins s σ H R I (m σ H R q)⟩
theorem i_list (h : PE X e (tE X.K q g)) : PI X tg e (tI X.K q (srcV T.asList g)) := PI_mono (pi_list h) (src_tr fun v F N H t ds R s rd ev h1 h2 k => by
  obtain ⟨a, xs, rfl, sq, da, kp⟩ := list_keep s rd ev h1 h2
  have hl := DpAll.length da
  refine ⟨a, rfl, ⟨xs, sq⟩, k _ ⟨fun i H' hi st => ?_, fun H' st => ⟨xs, kp H' st, by omega⟩, fun i d F' H' x H'' hd st sF sub y => ?_⟩⟩
  · exact ⟨xs, xs[i]'(by omega), kp H' st, by simp [show i < xs.length by omega]⟩
  · obtain ⟨rfl, y⟩ := y
    exact ⟨F', Grow.refl sub, Dp.mono sF _ _ (DpAll.at da (y xs (kp _ st)) hd)⟩)
theorem i_tup (h : PE X e (tE X.K q g)) : PI X tg e (tI X.K q (srcV T.asTup g)) := PI_mono (pi_tup h) (src_tr fun v F N H t ds R s rd ev h1 h2 k => by
  obtain ⟨a, xs, rfl, sq, da, kp⟩ := tup_keep s rd ev h1 h2
  have hl := DpAll.length da
  refine ⟨a, rfl, ⟨xs, sq⟩, k _ ⟨fun i H' hi st => ?_, fun H' st => ⟨xs, kp H' st, by omega⟩, fun i d F' H' x H'' hd st sF sub y => ?_⟩⟩
  · exact ⟨xs, xs[i]'(by omega), kp H' st, by simp [show i < xs.length by omega]⟩
  · obtain ⟨rfl, y⟩ := y
    exact ⟨F', Grow.refl sub, Dp.mono sF _ _ (DpAll.at da (y xs (kp _ st)) hd)⟩)
/-- a text, sign by sign -/
def T.asSigns : T → Option (List PyData)
  | .fr (.str z) => some (z.cps.toList.map fun c => .str ⟨#[c]⟩)
  | _ => none
theorem i_str (h : PE X e (tE X.K q g)) : PI X tg e (tI X.K q (srcV T.asSigns g)) := PI_mono (pi_str h) (src_tr fun v F N H t ds R s rd ev h1 h2 k => by
  unfold T.asSigns at ev
  split at ev
  · rename_i z
    have ev := Option.some.inj ev
    subst ev
    refine ⟨z, rd.str, k _ ⟨fun i H' hi st => (show i < z.cps.size by simpa using hi), fun H' st => by simp [Its], fun i d F' H' x H'' hd st sF sub y => ?_⟩⟩
    obtain ⟨rfl, c, hc, rfl⟩ := y
    have hc' : z.cps.toList[i]? = some c := by simpa using hc
    rw [List.getElem?_map, hc'] at hd
    have hd := Option.some.inj hd
    subst hd
    exact ⟨F', Grow.refl sub, .str _⟩
  · cases ev)
/-- enumerate(a list) -/
def T.asEnum (t : T) : Option (List PyData) := t.asList.map fun ds => ds.zipIdx.map fun z => .tuple [.int (z.2 : Nat), z.1]
theorem i_enum {p pos tpos : Pos} {elts : List Expr} {kk : Nat} (hg : Gl X "enumerate") (hm : X.mg "enumerate" = none) (h : PE X e (tE X.K q g)) (hs : starEach [e] X.env = [(false, eval e X.env)] := by rfl) :
    PI X (.Tuple elts kk tpos) (.Call (.Name "enumerate" p) [e] [] pos) (tI X.K q (srcV T.asEnum g)) := PI_mono (pi_enum hg hm (pa_cons h pa_nil (by rw [hs]; rfl)) hs) (src_tr (r := fun v H R => ∃ a xs, [v] = [V.ref a] ∧ SqL X.K H a xs ∧ R (Ite X.K a) H) fun v F N H t ds R s rd ev h1 h2 k => by
  obtain ⟨es, ev', rfl⟩ := Option.map_eq_some_iff.mp (show t.asList.map _ = some ds from ev)
  obtain ⟨a, xs, rfl, sq, da, kp⟩ := list_keep s rd ev' h1 h2
  have hl := DpAll.length da
  refine ⟨a, xs, rfl, sq, k _ ⟨fun i H' hi st => ?_, fun H' st => ⟨xs, kp H' st, by simp; omega⟩, fun i d F' H' x H'' hd st sF sub y => ?_⟩⟩
  · simp at hi
    exact ⟨xs, xs[i]'(by omega), kp H' st, by simp [show i < xs.length by omega]⟩
  · obtain ⟨T', x', rfl, hT, rfl, hx⟩ := y
    have hx := hx xs (kp _ st)
    obtain ⟨d', hd', hdp⟩ := DpAll.get' da hx
    rw [List.getElem?_map, List.getElem?_zipIdx, hd'] at hd
    have hd := Option.some.inj hd
    subst hd
    simp only [Nat.zero_add]
    have gr := Grow.newF (o := .tup [.int (i : Nat), x']) sub hT
    exact ⟨_, gr, .tup (.of upd_same) (.cons (.int _) (.cons (Dp.mono (sF.trans gr.sF) _ _ hdp) .nil))⟩)
/-- ranges -/
def rngD (lo : Int) (n : Nat) : List PyData := (List.range n).map fun (k : Nat) => .int (lo + k)
theorem walk_rng {N : Addr → Prop} {lo : Int} {n : Nat} : WalkD K (Itr lo n) N F H (rngD lo n) :=
  ⟨fun i H' hi _ => (show i < n by simpa [rngD] using hi), fun H' _ => by simp [rngD, Itr], fun i d F' H' x H'' hd _ _ sub y => by
    obtain ⟨rfl, rfl⟩ := y
    unfold rngD at hd
    rw [List.getElem?_map] at hd
    obtain ⟨j, hj, rfl⟩ := Option.map_eq_some_iff.mp hd
    have hlt : i < n := by have := (List.getElem?_eq_some_iff.mp hj).1; simpa using this
    rw [List.getElem?_range hlt] at hj
    cases hj
    exact ⟨F', Grow.refl sub, .int _⟩⟩
def bnd (i : Int) : Bool := decide (-(2 ^ 62) ≤ i) && decide (i < 2 ^ 62)
theorem bnd_of {i : Int} (h : bnd i = true) : -(2 ^ 62) ≤ i ∧ i < 2 ^ 62 := by
  unfold bnd at h
  rw [Bool.and_eq_true] at h
  exact ⟨of_decide_eq_true h.1, of_decide_eq_true h.2⟩
def srcR (f : List PyData → Option (List PyData)) (gs : M (List PyData)) : Src := fun ρ => (gs ρ).bind fun x => (f x.1).map fun ds => ((ds, none), x.2)
theorem srcR_tr {f : List PyData → Option (List PyData)} {gs : M (List PyData)} {ta : TA} {r : List V → Hp → (It → Hp → Prop) → Prop} (ha : ∀ σ H Q, tA K q gs σ H Q → ta σ H Q)
    (hr : ∀ vs ds zs F H R, Same F H → DpAll K F vs ds → f ds = some zs → (∀ J, WalkD K J (fun _ => True) F H zs → R J H) → r vs H R) :
    ∀ σ H R, tI K q (srcR f gs) σ H R → ta σ H fun vs H1 => r vs H1 R := fun σ H R ⟨P, F, A, ρ, z, ρ', G, e, k⟩ => by
  obtain ⟨⟨ds, ρ1⟩, e1, e2⟩ := Option.bind_eq_some_iff.mp (show ((gs ρ).bind _) = some (z, ρ') from e)
  obtain ⟨zs, e5, e6⟩ := Option.map_eq_some_iff.mp e2
  injection e6 with e7 e8
  subst e7 e8
  exact ha _ _ _ ⟨P, F, A, ρ, ds, ρ1, G, e1, fun F1 A1 H1 vs G1 E1 da => hr vs ds zs F1 H1 R G1.same da e5 fun J w => k P F1 A1 H1 J _ G1 E1 w back_none (fun _ _ => trivial) fun _ _ _ => trivial⟩
def rng1 : List PyData → Option (List PyData)
  | [.int j] => if bnd j then some (rngD 0 j.toNat) else none
  | _ => none
def rng2 : List PyData → Option (List PyData)
  | [.int i, .int j] => if bnd i && bnd j then some (rngD i (j - i).toNat) else none
  | _ => none
variable {p : Pos} {gs : M (List PyData)} {c : Expr}
theorem i_range1 (hg : Gl X "range") (hm : X.mg "range" = none) (ha : PA X [a] (tA X.K q gs)) (hs : starEach [a] X.env = [(false, eval a X.env)] := by rfl) : PI X tg (.Call (.Name "range" p) [a] [] pos) (tI X.K q (srcR rng1 gs)) :=
  PI_mono (pi_range1 hg hm ha hs) (srcR_tr (fun _ _ _ h => h) fun vs ds zs F H R s da e k => by
    unfold rng1 at e
    split at e
    · rename_i j
      split at e
      · rename_i hb
        have e := Option.some.inj e
        subst e
        cases da with
        | cons a b =>
          cases a
          cases b
          exact ⟨j, rfl, (bnd_of hb).1, (bnd_of hb).2, k _ walk_rng⟩
      · cases e
    · cases e)
theorem i_range2 (hg : Gl X "range") (hm : X.mg "range" = none) (ha : PA X [a, b] (tA X.K q gs)) (hs : starEach [a, b] X.env = [(false, eval a X.env), (false, eval b X.env)] := by rfl) (hs2 : starEach [b] X.env = [(false, eval b X.env)] := by rfl) : PI X tg (.Call (.Name "range" p) [a, b] [] pos) (tI X.K q (srcR rng2 gs)) :=
  PI_mono (pi_range2 hg hm ha hs hs2) (srcR_tr (fun _ _ _ h => h) fun vs ds zs F H R s da e k => by
    unfold rng2 at e
    split at e
    · rename_i i j
      split at e
      · rename_i hb
        rw [Bool.and_eq_true] at hb
        have e := Option.some.inj e
        subst e
        cases da with
        | cons a b =>
          cases a
          cases b with
          | cons a b =>
            cases a
            cases b
            exact ⟨i, j, rfl, ⟨(bnd_of hb.1).1, (bnd_of hb.1).2, (bnd_of hb.2).1, (bnd_of hb.2).2⟩, k _ walk_rng⟩
      · cases e
    · cases e)
/-- range(i, j, -1) -/
def rngDown (i : Int) (n : Nat) : List PyData := (List.range n).map fun (k : Nat) => .int (i - k)
def rng3 : List PyData → Option (List PyData)
  | [.int i, .int j, .int c] => if c = -1 ∧ bnd i = true ∧ bnd j = true then some (rngDown i (i - j).toNat) else none
  | _ => none
theorem i_range3 (hg : Gl X "range") (hm : X.mg "range" = none) (ha : PA X [a, b, c] (tA X.K q gs)) (he : starEach [a, b, c] X.env = (false, eval a X.env) :: starEach [b, c] X.env := by rfl) (hpl : (backTo pos (starEach [b, c] X.env)).any (·.1) = false := by rfl) : PI X tg (.Call (.Name "range" p) [a, b, c] [] pos) (tI X.K q (srcR rng3 gs)) :=
  PI_mono (pi_range3 hg hm ha he hpl) (srcR_tr (fun _ _ _ h => h) fun vs ds zs F H R s da e k => by
    unfold rng3 at e
    split at e
    · rename_i i j c
      split at e
      · rename_i hb
        obtain ⟨rfl, h1, h2⟩ := hb
        have e := Option.some.inj e
        subst e
        cases da with
        | cons a b =>
          cases a
          cases b with
          | cons a b =>
            cases a
            cases b with
            | cons a b =>
              cases a
              cases b
              refine ⟨i, j, -1, (i - j).toNat, rfl, RgC.neg (bnd_of h1).1 (bnd_of h1).2 (bnd_of h2).1 (bnd_of h2).2, k _ ⟨fun k H' hi _ => (show k < (i - j).toNat by simpa [rngDown] using hi), fun H' _ => (show (i - j).toNat ≤ (rngDown i (i - j).toNat).length by unfold rngDown; rw [List.length_map, List.length_range]; exact Nat.le_refl _), fun k d F' H' x H'' hd _ _ sub y => ?_⟩⟩
              obtain ⟨rfl, rfl⟩ := y
              unfold rngDown at hd
              rw [List.getElem?_map] at hd
              obtain ⟨l, hl, rfl⟩ := Option.map_eq_some_iff.mp hd
              have hlt : k < (i - j).toNat := by have := (List.getElem?_eq_some_iff.mp hl).1; simpa using this
              rw [List.getElem?_range hlt] at hl
              cases hl
              refine ⟨F', Grow.refl sub, ?_⟩
              rw [show i + ((k : Nat) : Int) * -1 = i - (k : Nat) by omega]
              exact .int _
      · cases e
    · cases e)

/-! ### for -/
def loopM (m : GM) (n : M Fl) : List PyData → M Fl
  | [] => fun ρ => some (.nx, ρ)
  | d :: ds => fun ρ => (m d ρ).bind fun ρ1 => (n ρ1).bind fun x => match x.1 with
    | .nx => loopM m n ds x.2
    | .ct => loopM m n ds x.2
    | .bk => some (.nx, x.2)
    | .rt r => some (.rt r, x.2)
def sFor (src : Src) (m : GM) (n : M Fl) : M Fl := fun ρ => (src ρ).bind fun x => (loopM m n x.1.1 (hideM x.1.2 x.2)).bind fun y => (unhide x.1.2 x.2 y.2).map fun ρ3 => (y.1, ρ3)
theorem s_for {iter : Expr} {body : List Stmt} {src : Src} {m : GM} {ts : List Nat} {n : M Fl} (hp : PassesOwn (model X.prog X.w) X.A X.env X.xe) (hc : X.calm = true) (hi : PI X tg iter (tI X.K qa src)) (hg : PG X tg (tG X.K ts m)) (hb : PSs X body (tS X.K qb n))
    (hs : ∀ x, foldedSetIterable iter X.env x = pure x := by intro _; rfl) : PS X (.For tg iter body [] pos) (tS X.K (qa && qb) (sFor src m n)) :=
  PS_mono (ps_for hp hc hi hg hb hs) fun D σ H ⟨P, F, A, ρ, fl, ρ', G, e, k⟩ => by
    obtain ⟨⟨⟨ds, hd⟩, ρ1⟩, e1, e2⟩ := Option.bind_eq_some_iff.mp (show ((src ρ).bind _) = some (fl, ρ') from e)
    obtain ⟨⟨fl', ρe⟩, e3, e4⟩ := Option.bind_eq_some_iff.mp (show (loopM m n ds (hideM hd ρ1)).bind (fun y => (unhide hd ρ1 y.2).map fun ρ3 => (y.1, ρ3)) = some (fl, ρ') from e2)
    obtain ⟨ρ3, e5, e6⟩ := Option.map_eq_some_iff.mp e4
    injection e6 with e7 e8
    subst e7 e8
    refine ⟨P, F, A, ρ, (ds, hd), ρ1, G, e1, fun P' F1 A1 H1 J N0 G1 E1 wk bk hN _ => ?_⟩
    -- the end of the loop
    have fin : ∀ F2 A2 σ2 H2 fl0, fl0 = fl' → Good X.K P' F2 A2 ρe σ2 H2 → Ext qb F1 A1 H1 F2 A2 H2 → endOf X.K (Nw A1 H1) F2 A2 σ2 H2 D fl0 := fun F2 A2 σ2 H2 fl0 ef G2 E2 => by
      subst ef
      obtain ⟨A3, G3, s3⟩ := bk F2 A2 ρe σ2 H2 ρ3 G2 E2.sF (fun a _ => E2.frm a) e5
      have E3 : Ext (qa && qb) F A H F2 A3 H2 := ⟨E1.sF.trans E2.sF, fun a n => by
        obtain ⟨h2, f2, n2⟩ := (E1.trans E2).frm a n
        exact ⟨h2, f2, fun j m => (s3 j a m).elim (n2 j) fun z => n z.1⟩, (E1.trans E2).qt⟩
      have z := k F2 A3 σ2 H2 G3 E3
      cases fl0 with
      | nx => exact z
      | bk => exact z
      | ct => exact z
      | rt r =>
        refine fun v hv => z v ?_
        cases r with
        | val t =>
          obtain ⟨S, o, nd, dj, nw⟩ := hv
          exact ⟨S, o, nd, fun a m j mj => (s3 j a mj).elim (dj a m j) fun y => y.2 (nw a m), fun a m => E1.nw' (nw a m)⟩
        | bor i p => exact hv
    refine ⟨fun i l σ2 H2 => l = ds.length - i ∧ i ≤ ds.length ∧ ∃ F2 A2 ρ2, Good X.K P' F2 A2 ρ2 σ2 H2 ∧ Ext qb F1 A1 H1 F2 A2 H2 ∧ loopM m n (ds.drop i) ρ2 = some (fl', ρe), ⟨_, rfl, Nat.zero_le _, F1, A1, _, G1, Ext.refl, e3⟩, ?_⟩
    rintro i l σ2 H2 ⟨rfl, hi', F2, A2, ρ2, G2, E2, el⟩
    have st : ∀ a, ¬ N0 a → H2 a = H1 a := fun a z => (E2.frm a fun w => z (hN a w)).1
    by_cases hlt : i < ds.length
    · rw [List.drop_eq_getElem_cons hlt] at el
      obtain ⟨ρ4, e9, el⟩ := Option.bind_eq_some_iff.mp (show ((m ds[i] ρ2).bind _) = some (fl', ρe) from el)
      obtain ⟨⟨x, ρ5⟩, e10, el⟩ := Option.bind_eq_some_iff.mp el
      refine .inr ⟨wk.goes i H2 hlt st, fun σ' H' => ∃ F2 A2 ρ2, Good X.K P' F2 A2 ρ2 σ' H' ∧ Ext qb F1 A1 H1 F2 A2 H' ∧ loopM m n (ds.drop (i + 1)) ρ2 = some (fl', ρe), fun σ' H' ⟨F3, A3, ρ6, a, b, c⟩ => ⟨_, by omega, rfl, hlt, F3, A3, ρ6, a, b, c⟩, fun y H' hy => ?_⟩
      obtain ⟨F3, gr, hd3⟩ := wk.yields i _ F2 H2 y H' (List.getElem?_eq_getElem hlt) st E2.sF G2.same hy
      refine ⟨P', F3, A2, ρ2, ds[i], ρ4, G2.grow gr, hd3, e9, fun A4 σ4 G4 s4 l4 _ => ?_⟩
      have E4 : Ext qb F1 A1 H1 F3 A4 H' := ((E2.trans (gr.ext (q := true))).shrink s4).le (by simp)
      refine ⟨P', F3, A4, ρ4, x, ρ5, G4, e10, fun F5 A5 σ5 H5 G5 E5 => ?_⟩
      have E6 : Ext qb F1 A1 H1 F5 A5 H5 := (E4.trans E5).le (by simp)
      cases x with
      | nx => exact ⟨F5, A5, ρ5, G5, E6, el⟩
      | ct => exact ⟨F5, A5, ρ5, G5, E6, el⟩
      | bk =>
        injection (show some (Fl.nx, ρ5) = some (fl', ρe) from el) with el
        injection el with el1 el2
        subst el2
        exact fin F5 A5 σ5 H5 .nx el1 G5 E6
      | rt r =>
        injection (show some (Fl.rt r, ρ5) = some (fl', ρe) from el) with el
        injection el with el1 el2
        subst el2
        have z := fin F5 A5 σ5 H5 (.rt r) el1 G5 E6
        exact fun v hv => z v (hv.le fun a m => E4.nw' m)
    · have hi2 : i = ds.length := by omega
      subst hi2
      rw [List.drop_length] at el
      injection (show some (Fl.nx, ρ2) = some (fl', ρe) from el) with el
      injection el with el1 el2
      subst el2
      exact .inl ⟨wk.stops H2 st, fin F2 A2 σ2 H2 .nx el1 G2 E2⟩

/-! ### while -/
def whileM (c : M Bool) (n : M Fl) : Nat → M Fl
  | 0 => fun _ => none
  | k + 1 => fun ρ => (c ρ).bind fun x => if x.1 then (n x.2).bind fun y => match y.1 with
    | .nx => whileM c n k y.2
    | .ct => whileM c n k y.2
    | .bk => some (.nx, y.2)
    | .rt r => some (.rt r, y.2) else some (.nx, x.2)
theorem s_while {t : Expr} {body : List Stmt} {cm : M Bool} {n : M Fl} (fuel : Nat) (hp : PassesOwn (model X.prog X.w) X.A X.env X.xe) (hc : PT X t (tT X.K qa cm)) (hb : PSs X body (tS X.K qb n)) : PS X (.While t body [] pos) (tS X.K (qa && qb) (whileM cm n fuel)) :=
  PS_mono (ps_while hp hc hb) fun D σ H ⟨P, F, A, ρ, fl, ρ', G, e, k⟩ => by
    refine ⟨fun l σ2 H2 => ∃ F2 A2 ρ2, Good X.K P F2 A2 ρ2 σ2 H2 ∧ Ext (qa && qb) F A H F2 A2 H2 ∧ whileM cm n l ρ2 = some (fl, ρ'), ⟨fuel, F, A, ρ, G, Ext.refl, e⟩, ?_⟩
    rintro l σ2 H2 ⟨F2, A2, ρ2, G2, E2, el⟩
    cases l with
    | zero => cases el
    | succ l =>
      obtain ⟨⟨b, ρ3⟩, e1, e2⟩ := Option.bind_eq_some_iff.mp (show ((cm ρ2).bind _) = some (fl, ρ') from el)
      refine ⟨P, F2, A2, ρ2, b, ρ3, G2, e1, fun F3 A3 H3 G3 E3 => ?_⟩
      cases b with
      | false =>
        rw [if_neg Bool.false_ne_true]
        injection (show some (Fl.nx, ρ3) = some (fl, ρ') from e2) with e2
        injection e2 with e4 e5
        subst e4 e5
        exact k F3 A3 σ2 H3 G3 ((E2.trans E3).le (by simp; intro a b; simp [a, b]))
      | true =>
        rw [if_pos rfl]
        obtain ⟨⟨x, ρ4⟩, e3, e4⟩ := Option.bind_eq_some_iff.mp (show ((n ρ3).bind _) = some (fl, ρ') from e2)
        refine ⟨fun σ' H' => ∃ F2 A2 ρ2, Good X.K P F2 A2 ρ2 σ' H' ∧ Ext (qa && qb) F A H F2 A2 H' ∧ whileM cm n l ρ2 = some (fl, ρ'), fun σ' H' h => ⟨l, Nat.lt_succ_self l, h⟩, P, F3, A3, ρ3, x, ρ4, G3, e3, fun F5 A5 σ5 H5 G5 E5 => ?_⟩
        have E6 : Ext (qa && qb) F A H F5 A5 H5 := ((E2.trans E3).trans E5).le (by simp; intro a b; simp [a, b])
        cases x with
        | nx => exact ⟨F5, A5, ρ4, G5, E6, e4⟩
        | ct => exact ⟨F5, A5, ρ4, G5, E6, e4⟩
        | bk =>
          injection (show some (Fl.nx, ρ4) = some (fl, ρ') from e4) with e4
          injection e4 with e5 e6
          subst e5 e6
          exact k F5 A5 σ5 H5 G5 E6
        | rt r =>
          injection (show some (Fl.rt r, ρ4) = some (fl, ρ') from e4) with e4
          injection e4 with e5 e6
          subst e5 e6
          exact fun v hv => k F5 A5 σ5 H5 G5 E6 v (hv.le fun a m => (E2.trans E3).nw' m)

/-! ### list comprehensions -/
theorem wipe_in : ∀ {vs : List Nat} {σ : L2.St} {i : Nat}, i ∈ vs → (wipe σ vs)[i]? = if i < σ.length then some none else none
  | v :: vs, σ, i, h => by
    unfold wipe
    by_cases hv : v = i
    · subst hv
      by_cases hl : v < σ.length
      · rw [List.getElem?_set_self (by rw [wipe_length]; exact hl), if_pos hl]
      · rw [if_neg hl, List.getElem?_eq_none (by rw [List.length_set, wipe_length]; omega)]
    · rw [List.getElem?_set_ne hv]
      exact wipe_in (by simpa [Ne.symm hv] using h)
def wipeM : List Nat → MS → MS
  | [], ρ => ρ
  | v :: vs, ρ => (wipeM vs ρ).set v .non
/-- a slot that a comprehension may shadow -/
def plainSl : Option Sl → Bool
  | none => true
  | some .non => true
  | some (.own (.fr _)) => true
  | _ => false
def giveBack : List Nat → MS → MS → MS
  | [], _, ρ => ρ
  | v :: vs, ρ0, ρ => match ρ0[v]? with
    | some s => (giveBack vs ρ0 ρ).set v s
    | none => giveBack vs ρ0 ρ
theorem wipeM_len : ∀ (vs : List Nat) (ρ : MS), (wipeM vs ρ).length = ρ.length
  | [], _ => rfl
  | v :: vs, ρ => by unfold wipeM; rw [List.length_set, wipeM_len vs ρ]
theorem wipeM_out : ∀ {vs : List Nat} {ρ : MS} {i : Nat}, i ∉ vs → (wipeM vs ρ)[i]? = ρ[i]?
  | [], _, _, _ => rfl
  | v :: vs, ρ, i, h => by
    unfold wipeM
    rw [List.getElem?_set_ne (by intro z; subst z; exact h (by simp)), wipeM_out (fun m => h (by simp [m]))]
theorem wipeM_in : ∀ {vs : List Nat} {ρ : MS} {i : Nat} {s : Sl}, i ∈ vs → (wipeM vs ρ)[i]? = some s → s = .non
  | v :: vs, ρ, i, s, h, e => by
    unfold wipeM at e
    by_cases hv : v = i
    · subst hv
      by_cases hl : v < (wipeM vs ρ).length
      · rw [List.getElem?_set_self hl] at e; cases e; rfl
      · rw [List.getElem?_eq_none (by simp; omega)] at e; cases e
    · rw [List.getElem?_set_ne hv] at e
      exact wipeM_in (by simpa [Ne.symm hv] using h) e
theorem giveBack_len : ∀ (vs : List Nat) (ρ0 ρ : MS), (giveBack vs ρ0 ρ).length = ρ.length
  | [], _, _ => rfl
  | v :: vs, ρ0, ρ => by
    unfold giveBack
    split
    · rw [List.length_set, giveBack_len vs ρ0 ρ]
    · exact giveBack_len vs ρ0 ρ
theorem giveBack_out : ∀ {vs : List Nat} {ρ0 ρ : MS} {i : Nat}, i ∉ vs → (giveBack vs ρ0 ρ)[i]? = ρ[i]?
  | [], _, _, _, _ => rfl
  | v :: vs, ρ0, ρ, i, h => by
    unfold giveBack
    split
    · rw [List.getElem?_set_ne (by intro z; subst z; exact h (by simp)), giveBack_out (fun m => h (by simp [m]))]
    · exact giveBack_out (fun m => h (by simp [m]))
theorem giveBack_in : ∀ {vs : List Nat} {ρ0 ρ : MS} {i : Nat}, i ∈ vs → ρ0.length = ρ.length → (giveBack vs ρ0 ρ)[i]? = ρ0[i]?
  | v :: vs, ρ0, ρ, i, h, hl => by
    unfold giveBack
    by_cases hv : v = i
    · subst hv
      split
      · rename_i s e
        rw [List.getElem?_set_self (by rw [giveBack_len, ← hl]; exact (List.getElem?_eq_some_iff.mp e).1), e]
      · rename_i e
        rw [e]
        exact List.getElem?_eq_none (by rw [giveBack_len, ← hl]; exact List.getElem?_eq_none_iff.mp e)
    · have hm : i ∈ vs := by simpa [Ne.symm hv] using h
      split
      · rw [List.getElem?_set_ne hv, giveBack_in hm hl]
      · exact giveBack_in hm hl
def wipeA (vs : List Nat) (A : Nat → List Addr) : Nat → List Addr := fun i => if i ∈ vs then [] else A i
theorem wipeA_sub {vs : List Nat} {i : Nat} {a : Addr} (m : a ∈ wipeA vs A i) : a ∈ A i := by
  unfold wipeA at m
  split at m
  · cases m
  · exact m
theorem Good.wiped (vs : List Nat) (G : Good K P F A ρ σ2 H) (e : wipe σ2 vs = wipe σ vs) : Good K P F (wipeA vs A) (wipeM vs ρ) (wipe σ vs) H := by
  have hl : (wipe σ vs).length = σ2.length := by rw [← e, wipe_length]
  refine ⟨G.same, by rw [wipeM_len, hl, G.len], fun i s es => ?_, fun i h => ?_, fun i => ?_, fun i j a m m' => G.dj i j a (wipeA_sub m) (wipeA_sub m'), hl.trans G.ln⟩
  · by_cases hi : i ∈ vs
    · have := wipeM_in hi es
      subst this
      show wipeA vs A i = []
      exact if_pos hi
    · rw [wipeM_out hi] at es
      have h := G.slot i s es
      rw [← e, wipe_out hi]
      have : wipeA vs A i = A i := if_neg hi
      rw [this]
      exact h
  · rw [wipeM_len] at h
    unfold wipeA
    split
    · rfl
    · exact G.out i h
  · unfold wipeA
    split
    · exact List.nodup_nil
    · exact G.nd i
/-- back from the block: its own names as they were -/
theorem Good.unwiped (vs : List Nat) (G0 : Good K P F1 A1 ρ1 σ H1) (pl : ∀ v ∈ vs, plainSl ρ1[v]? = true) (G : Good K P F A (wipeM vs ρ) (wipe σ vs) H) (sF : Same F1 F) : Good K P F A (giveBack vs ρ1 (wipeM vs ρ)) σ H := by
  have hl1 : (wipeM vs ρ).length = ρ1.length := by rw [G.len, wipe_length, G0.len]
  refine ⟨G.same, by rw [giveBack_len, hl1, G0.len], fun i s es => ?_, fun i h => ?_, G.nd, G.dj, G0.ln⟩
  · by_cases hi : i ∈ vs
    · rw [giveBack_in hi hl1.symm] at es
      have hA : A i = [] := by
        cases ew : (wipeM vs ρ)[i]? with
        | none => exact G.out i (List.getElem?_eq_none_iff.mp ew)
        | some s' =>
          have := wipeM_in hi ew
          subst this
          exact G.slot i _ ew
      have h0 := G0.slot i s es
      have hp := pl i hi
      rw [es] at hp
      cases s with
      | non => exact hA
      | hid => cases hp
      | pin t => cases hp
      | own t =>
        cases t with
        | fr d =>
          obtain ⟨v, ev, o⟩ := h0
          refine ⟨v, ev, ?_⟩
          rw [hA]
          exact .fr (Dp.mono sF _ _ (Rd.fr ⟨_, o⟩))
        | lst _ => cases hp
        | tup _ => cases hp
        | dic _ _ => cases hp
        | scr _ => cases hp
    · rw [giveBack_out hi] at es
      have h := G.slot i s es
      rw [wipe_out hi] at h
      exact h
  · rw [giveBack_len] at h
    exact G.out i h
def cYes : M Bool := fun ρ => some (true, ρ)
theorem ts_nil : PTs X [] (tT X.K true cYes) := ⟨fun pins s σ H Q I ⟨P, F, A, ρ, b, ρ', G, e, k⟩ => pts_nil.run pins s σ H Q I (by
  injection (show some (true, ρ) = some (b, ρ') from e) with e
  injection e with e1 e2
  subst e1 e2
  exact k F A H G Ext.refl)⟩
theorem ts_one {c : Expr} {t : M Bool} (h : PT X c (tT X.K q t)) : PTs X [c] (tT X.K q t) := pts_one h
/-- one turn's keep or drop, then the rest -/
def lcLoop (vs : List Nat) (m : GM) (c : M Bool) (e : M R) : List PyData → M (List PyData)
  | [] => fun ρ => some ([], ρ)
  | d :: ds => fun ρ => (m d (wipeM vs ρ)).bind fun ρ1 => (c ρ1).bind fun x => if x.1 then (fz e x.2).bind fun y => (lcLoop vs m c e ds y.2).map fun z => (y.1 :: z.1, z.2) else lcLoop vs m c e ds x.2
def lcM (src : Src) (vs : List Nat) (m : GM) (c : M Bool) (e : M R) : M R := fun ρ => (src ρ).bind fun x => if (vs.all fun v => plainSl (hideM x.1.2 x.2)[v]?) && lineOk x.1.1 then
  (lcLoop vs m c e x.1.1 (hideM x.1.2 x.2)).bind fun z => (unhide x.1.2 x.2 (giveBack vs (hideM x.1.2 x.2) (wipeM vs z.2))).map fun ρ3 => (.val (.lst (z.1.map T.fr)), ρ3) else none
/-- the list being made stands aside -/
theorem lc_tr {src : Src} {vs ts : List Nat} {m : GM} {c : M Bool} {el : M R} {qi qt qe : Bool} (hts : ∀ j ∈ ts, j ∈ vs) :
    ∀ σ H Q, tE K (qi && (qt && qe)) (lcM src vs m c el) σ H Q → tLc (tI K qi src) (tG K ts m) (tT K qt c) (tE K qe el) vs σ H Q := fun σ H Q ⟨P, F, A, ρ, r, ρ', G, e, k⟩ => by
  obtain ⟨⟨⟨ds, hd⟩, ρ1⟩, e1, e2⟩ := Option.bind_eq_some_iff.mp (show ((src ρ).bind _) = some (r, ρ') from e)
  have e2 : (if ((vs.all fun v => plainSl (hideM hd ρ1)[v]?) && lineOk ds) = true then (lcLoop vs m c el ds (hideM hd ρ1)).bind fun z => (unhide hd ρ1 (giveBack vs (hideM hd ρ1) (wipeM vs z.2))).map fun ρ3 => (R.val (.lst (z.1.map T.fr)), ρ3) else none) = some (r, ρ') := e2
  split at e2
  · rename_i hpl
    rw [Bool.and_eq_true] at hpl
    have hplain : ∀ v ∈ vs, plainSl (hideM hd ρ1)[v]? = true := List.all_eq_true.mp hpl.1
    have hline : ds.length ≤ sizeLine := of_decide_eq_true hpl.2
    obtain ⟨⟨out, ρe⟩, e3, e4⟩ := Option.bind_eq_some_iff.mp e2
    obtain ⟨ρ3, e5, e6⟩ := Option.map_eq_some_iff.mp e4
    injection e6 with e7 e8
    subst e7 e8
    refine ⟨P, F, A, ρ, (ds, hd), ρ1, G, e1, fun P' F1 A1 H1 J N0 G1 E1 wk bk hN _ D hD => ?_⟩
    have fD : F1 D = none := G1.same.free hD
    have gD := Grow.new (o := .lst []) G1.same hD
    have aD : ∀ i, D ∉ A1 i := fun i m => by
      obtain ⟨_, ob, eb⟩ := G1.noF i D m
      rw [hD] at eb; cases eb
    -- what holds between two turns
    refine ⟨fun i l H2 => l = ds.length - i ∧ i ≤ ds.length ∧ ∃ F2 A2 ρ2 acc done rest, Good K P' F2 A2 (wipeM vs ρ2) (wipe σ vs) H2 ∧ Ext false F1 A1 H1 F2 A2 H2 ∧ ((qt && qe) = true → ∀ b o, H1 b = some o → H2 b = some o) ∧
      H2 D = some (.lst acc) ∧ F2 D = none ∧ (∀ i, D ∉ A2 i) ∧ DpAll K F2 acc done ∧ done.length ≤ i ∧ lcLoop vs m c el (ds.drop i) ρ2 = some (rest, ρe) ∧ done ++ rest = out,
      ⟨_, rfl, Nat.zero_le _, F1, wipeA vs A1, hideM hd ρ1, [], [], out, (G1.grow gD).wiped vs rfl, ?_, fun _ b o eb => gD.sH b o eb, upd_same, fD, fun i m => aD i (wipeA_sub m), .nil, Nat.le_refl _, e3, rfl⟩, ?_⟩
    · exact ((Ext.refl (q := true)).trans ((gD.ext (q := true)).shrink fun i a m => wipeA_sub m)).le (by simp)
    rintro i l H2 ⟨rfl, hi', F2, A2, ρ2, acc, done, rest, G2, E2, Q2, hacc, fD2, aD2, dacc, hdone, el2, eout⟩
    have st : ∀ a, ¬ N0 a → H2 a = H1 a := fun a z => (E2.frm a fun w => z (hN a w)).1
    by_cases hlt : i < ds.length
    · rw [List.drop_eq_getElem_cons hlt] at el2
      obtain ⟨ρ4, e9, el3⟩ := Option.bind_eq_some_iff.mp (show ((m ds[i] (wipeM vs ρ2)).bind _) = some (rest, ρe) from el2)
      obtain ⟨⟨b, ρ5⟩, e10, el4⟩ := Option.bind_eq_some_iff.mp el3
      refine .inr ⟨wk.goes i H2 hlt st, fun H' => ∃ F2 A2 ρ2 acc done rest, Good K P' F2 A2 (wipeM vs ρ2) (wipe σ vs) H' ∧ Ext false F1 A1 H1 F2 A2 H' ∧ ((qt && qe) = true → ∀ b o, H1 b = some o → H' b = some o) ∧
        H' D = some (.lst acc) ∧ F2 D = none ∧ (∀ i, D ∉ A2 i) ∧ DpAll K F2 acc done ∧ done.length ≤ i + 1 ∧ lcLoop vs m c el (ds.drop (i + 1)) ρ2 = some (rest, ρe) ∧ done ++ rest = out, fun H' z => ⟨_, by omega, rfl, hlt, z⟩, fun y H' hy => ?_⟩
      obtain ⟨F3, gr, hd3⟩ := wk.yields i _ F2 H2 y H' (List.getElem?_eq_getElem hlt) st E2.sF G2.same hy
      refine ⟨P', F3, A2, wipeM vs ρ2, ds[i], ρ4, G2.grow gr, hd3, e9, fun A4 σ4 G4 s4 l4 n4 => ?_⟩
      have hw4 : wipe σ4 vs = wipe σ vs := by
        refine List.ext_getElem? fun j => ?_
        by_cases hj : j ∈ vs
        · have a1 := wipe_in (σ := σ4) hj
          have a2 := wipe_in (σ := σ) hj
          rw [a1, a2]
          have : σ4.length = σ.length := by rw [l4, wipe_length]
          rw [this]
        · rw [wipe_out hj, n4 j (fun z => hj (hts j z))]
      refine ⟨hw4, ?_⟩
      have keepD : F3 D = none ∧ H' D = some (.lst acc) := ⟨(gr.old D _ hacc).trans fD2, gr.sH D _ hacc⟩
      have aD4 : ∀ i, D ∉ A4 i := fun i m => aD2 i (s4 i D m)
      have E4 : Ext false F1 A1 H1 F3 A4 H' := ((E2.trans (gr.ext (q := true))).shrink s4).le (by simp)
      refine ⟨P', F3, A4, ρ4, b, ρ5, G4, e10, fun F5 A5 H5 G5 E5 => ?_⟩
      have nD4 : ¬ Nw A4 H' D := not_nw keepD.2 aD4
      obtain ⟨h5, f5, n5⟩ := E5.frm D nD4
      have Q5 : (qt && qe) = true → ∀ b o, H1 b = some o → H5 b = some o := fun z b o eb => E5.qt (Bool.and_eq_true_iff.mp z).1 b o (gr.sH b o (Q2 z b o eb))
      cases b with
      | false =>
        refine iteF ?_
        have el5 : lcLoop vs m c el (ds.drop (i + 1)) ρ5 = some (rest, ρe) := el4
        exact ⟨F5, wipeA vs A5, ρ5, acc, done, rest, G5.wiped vs hw4, ((E4.trans E5).shrink fun i a m => wipeA_sub m).le (by simp), Q5, h5.trans keepD.2, f5.trans keepD.1, fun i m => n5 i (wipeA_sub m), DpAll.mono (gr.sF.trans E5.sF) _ _ dacc, by omega, el5, eout⟩
      | true =>
        refine iteT ?_
        obtain ⟨⟨z, ρ6⟩, e11, el6⟩ := Option.bind_eq_some_iff.mp (show ((fz el ρ5).bind fun y => (lcLoop vs m c el (ds.drop (i + 1)) y.2).map fun z => (y.1 :: z.1, z.2)) = some (rest, ρe) from el4)
        obtain ⟨⟨rest', ρ7⟩, e12, e13⟩ := Option.map_eq_some_iff.mp el6
        injection e13 with e14 e15
        subst e14 e15
        refine fz_tr (q := qe) (te := tE K qe el) (fun _ _ _ h => h) G5 e11 fun F7 A7 H7 w G7 E7 hdz => ?_
        obtain ⟨h7, f7, n7⟩ := E7.frm D (not_nw (h5.trans keepD.2) n5)
        have hD7 : H7 D = some (.lst acc) := (h7.trans h5).trans keepD.2
        have fD7 : F7 D = none := (f7.trans f5).trans keepD.1
        have hal := DpAll.length dacc
        refine ⟨acc, hD7, by omega, F7, wipeA vs A7, ρ6, acc ++ [w], done ++ [z], rest', ?_, ?_, fun hz b o eb => ?_, upd_same, fD7, fun i m => n7 i (wipeA_sub m), DpAll.append (DpAll.mono ((gr.sF.trans E5.sF).trans E7.sF) _ _ dacc) (.cons hdz .nil), by simp; omega, e12, by rw [← eout]; simp⟩
        · refine Good.wiped vs (σ2 := σ4) ⟨fun b o eb => ?_, G7.len, fun j s es => (G7.slot j s es).keep (Same.refl F7) fun a m => ⟨(G7.noF j a m).1, upd_ne fun z => n7 j (z ▸ m)⟩, G7.out, G7.nd, G7.dj, G7.ln⟩ hw4
          rw [upd_ne (fun z => by rw [z, fD7] at eb; cases eb)]
          exact G7.same b o eb
        · refine ⟨((E4.trans E5).trans E7).sF, fun a n => ?_, fun z => by cases z⟩
          obtain ⟨h8, f8, n8⟩ := ((E4.trans E5).trans E7).frm a n
          refine ⟨?_, f8, fun j m => n8 j (wipeA_sub m)⟩
          have : a ≠ D := fun z => by
            subst z
            exact n (.inl hD)
          rw [upd_ne this]
          exact h8
        · rw [upd_ne (fun z => by rw [z, hD] at eb; cases eb)]
          exact E7.qt (Bool.and_eq_true_iff.mp hz).2 b o (Q5 hz b o eb)
    · have hi2 : i = ds.length := by omega
      subst hi2
      rw [List.drop_length] at el2
      injection (show some (([] : List PyData), ρ2) = some (rest, ρe) from el2) with el2
      injection el2 with el3 el4
      subst el3 el4
      rw [List.append_nil] at eout
      subst eout
      refine .inl ⟨wk.stops H2 st, ?_⟩
      have G3 := Good.unwiped vs G1 hplain G2 E2.sF
      obtain ⟨A3, G4, s3⟩ := bk F2 A2 _ σ H2 ρ3 G3 E2.sF (fun a _ => E2.frm a) e5
      have E3 : Ext (qi && (qt && qe)) F A H F2 A3 H2 := ⟨E1.sF.trans E2.sF, fun a n => by
        obtain ⟨h2, f2, n2⟩ := (E1.trans E2).frm a n
        exact ⟨h2, f2, fun j m => (s3 j a m).elim (n2 j) fun z => n z.1⟩, fun hz b o eb => by
        rw [Bool.and_eq_true] at hz
        exact Q2 hz.2 b o (E1.qt hz.1 b o eb)⟩
      refine k F2 A3 H2 (.ref D) G4 E3 ⟨[D], .lst (S := []) fD2 hacc (OwAll.frs dacc), by simp, fun a m j mj => ?_, fun a m => ?_⟩
      · have : a = D := by simpa using m
        subst this
        rcases s3 j a mj with z | z
        · exact aD2 j z
        · exact z.2 (.inl hD)
      · have : a = D := by simpa using m
        subst this
        exact E1.nw' (.inl hD)
  · cases e2
end
end DL

/-! DL8: operators and built-ins by values. -/
namespace DL
open PySem PySem.Spec PyProof.Rows L2
section
variable {K : PySem.W.Frag} {P P' : Gh} {F F' F1 F2 H H' H1 H2 : Hp} {A A' A1 A2 : Nat → List Addr} {ρ ρ' ρ1 ρ2 ρ3 : MS} {σ σ' σ2 : L2.St} {q qa qb qi qt qe : Bool} {X : Cx} {pos : Pos}
theorem OpR_mono {f : Value → Value → Sem Value} {r r' : R2} (h : OpR X f r) (m : ∀ x y H Q, r' x y H Q → r x y H Q) : OpR X f r' := fun pins s σ H x y v u Q I rx ry z => h pins s σ H x y v u Q I rx ry (m x y H Q z)
theorem UnR_mono {f : Value → Sem Value} {r r' : V → Hp → VK → Prop} (h : UnR X f r) (m : ∀ x H Q, r' x H Q → r x H Q) : UnR X f r' := fun pins s σ H x v Q I rx z => h pins s σ H x v Q I rx (m x H Q z)
theorem IxR_mono {r r' : R2} (h : IxR X r) (m : ∀ x y H Q, r' x y H Q → r x y H Q) : IxR X r' := fun a b pins s σ H x y v u Q I rx ry z => h a b pins s σ H x y v u Q I rx ry (m x y H Q z)
theorem CallR_mono {f : Value} {r r' : List V → Hp → VK → Prop} (h : CallR X f r) (m : ∀ x H Q, r' x H Q → r x H Q) : CallR X f r' := fun pins s σ H x v Q I rx z => h pins s σ H x v Q I rx (m x H Q z)
theorem MtR_mono {id : String} {r r' : V → List V → Hp → VK → Prop} (h : MtR X id r) (m : ∀ x xs H Q, r' x xs H Q → r x xs H Q) : MtR X id r' := fun pins s σ H x xs v us Q I rx rs z => h pins s σ H x xs v us Q I rx rs (m x xs H Q z)
theorem PIp_mono {op : Operator} {r r' : TIp} (h : PIp X op r) (m : ∀ x y H Q, r' x y H Q → r x y H Q) : PIp X op r' := fun pins s σ H x y v u Q I rx ry z => h pins s σ H x y v u Q I rx ry (m x y H Q z)
theorem PSet_mono {r r' : TSet} (h : PSet X r) (m : ∀ o i v H Q, r' o i v H Q → r o i v H Q) : PSet X r' := fun pins s σ H o i v ov iv u Q I ro ri rv z => h pins s σ H o i v ov iv u Q I ro ri rv (m o i v H Q z)

/-! ### ints -/
def opI (f : Int → Int → Option PyData) (t u : T) : Option T := t.asInt.bind fun i => u.asInt.bind fun j => (f i j).map T.fr
theorem opI_of {f : Int → Int → Option PyData} {t u r : T} (e : opI f t u = some r) : ∃ i j d, t.asInt = some i ∧ u.asInt = some j ∧ f i j = some d ∧ r = .fr d := by
  obtain ⟨i, e1, e2⟩ := Option.bind_eq_some_iff.mp e
  obtain ⟨j, e3, e4⟩ := Option.bind_eq_some_iff.mp e2
  obtain ⟨d, e5, e6⟩ := Option.map_eq_some_iff.mp e4
  exact ⟨i, j, d, e1, e3, e5, e6.symm⟩
theorem opI_ok {f : Int → Int → Option PyData} {r : R2} (h : ∀ i j d H (Q : VK), f i j = some d → (∀ v, (∀ F, Dp K F v d) → Q v H) → r (.int i) (.int j) H Q) : ∀ x y H Q, rT2 K (opI f) x y H Q → r x y H Q := fun x y H Q ⟨F, t, u, z, s, hx, hy, e, k⟩ => by
  obtain ⟨i, j, d, e1, e2, e3, rfl⟩ := opI_of e
  rw [hx.asInt e1, hy.asInt e2]
  exact h i j d H Q e3 fun v hv => Got.fr s k (hv F)
def iB (p : Int → Int → Bool) : Int → Int → Option PyData := fun i j => some (.bool (p i j))
def iI (C : Int → Int → Bool) (p : Int → Int → Int) : Int → Int → Option PyData := fun i j => if C i j then some (.int (p i j)) else none
theorem iI_ok {C : Int → Int → Bool} {p : Int → Int → Int} {CP : Int → Int → Prop} (hC : ∀ i j, C i j = true → CP i j) : ∀ x y H Q, rT2 K (opI (iI C p)) x y H Q → rI CP (fun i j => .int (p i j)) x y H Q :=
  opI_ok fun i j d H Q e k => by
    unfold iI at e
    split at e
    · rename_i hc
      have e := Option.some.inj e
      subst e
      exact ⟨i, j, rfl, rfl, hC i j hc, k _ fun F => .int _⟩
    · cases e
theorem iB_ok {p : Int → Int → Bool} : ∀ x y H Q, rT2 K (opI (iB p)) x y H Q → rI0 (fun i j => .bl (p i j)) x y H Q :=
  opI_ok fun i j d H Q e k => by
    have e := Option.some.inj (show some (PyData.bool (p i j)) = some d from e)
    subst e
    exact ⟨i, j, rfl, rfl, k _ fun F => .bl _⟩
def opSub := opI (iI (fun _ _ => true) fun i j => i - j)
def mulOk (i j : Int) : Bool := (decide (-(2 ^ 64) < i) && decide (i < 2 ^ 64)) || (decide (-(2 ^ 64) < j) && decide (j < 2 ^ 64))
def opMulI := opI (iI mulOk fun i j => i * j)
def opMod := opI (iI (fun _ j => decide (j ≠ 0)) fun i j => i.fmod j)
def opFdiv := opI (iI (fun _ j => decide (j ≠ 0) && decide (j.natAbs < 1073741824)) fun i j => i.fdiv j)
def powOk (i j : Int) : Bool := decide (0 ≤ j) && decide (j ≤ 1000000) && decide (i.natAbs < 2 ^ 64)
def opPow := opI (iI powOk fun i j => i ^ j.toNat)
def opShl := opI (iI powOk fun i j => i * 2 ^ j.toNat)
def opXor := opI (iI (fun _ _ => true) fun i j => Builtin.bitXor i j)
def opAndB := opI (iI (fun _ _ => true) fun i j => Builtin.bitAnd i j)
def opLt := opI (iB fun i j => decide (i < j))
def opLe := opI (iB fun i j => decide (i ≤ j))
def opGt := opI (iB fun i j => decide (j < i))
def opGe := opI (iB fun i j => decide (j ≤ i))
theorem r_sub : OpR X (binaryOp .Sub) (rT2 X.K opSub) := OpR_mono op_sub fun x y H Q h => by
  obtain ⟨i, j, a, b, _, c⟩ := iI_ok (CP := fun _ _ => True) (fun _ _ _ => trivial) x y H Q h
  exact ⟨i, j, a, b, c⟩
theorem mulOk_of {i j : Int} (h : mulOk i j = true) : CMul i j := by
  simp only [mulOk, Bool.or_eq_true, Bool.and_eq_true, decide_eq_true_eq] at h
  exact h
theorem r_mulI : OpR X (binaryOp .Mult) (rT2 X.K opMulI) := OpR_mono op_mul (iI_ok fun i j h => mulOk_of h)
theorem r_mod : OpR X (binaryOp .Mod) (rT2 X.K opMod) := OpR_mono op_modN (iI_ok fun i j h => of_decide_eq_true h)
theorem r_fdiv : OpR X (binaryOp .FloorDiv) (rT2 X.K opFdiv) := OpR_mono op_fdivN (iI_ok fun i j h => by
  rw [Bool.and_eq_true] at h
  exact ⟨of_decide_eq_true h.1, of_decide_eq_true h.2⟩)
theorem powOk_of {i j : Int} (h : powOk i j = true) : CPow i j := by
  simp only [powOk, Bool.and_eq_true, decide_eq_true_eq] at h
  exact ⟨h.1.1, h.1.2, h.2⟩
theorem r_pow : OpR X (binaryOp .Pow) (rT2 X.K opPow) := OpR_mono op_pow (iI_ok fun i j h => powOk_of h)
theorem r_shl : OpR X (binaryOp .LShift) (rT2 X.K opShl) := OpR_mono op_shl (iI_ok fun i j h => powOk_of h)
theorem r_xor : OpR X (binaryOp .BitXor) (rT2 X.K opXor) := OpR_mono op_xor fun x y H Q h => by
  obtain ⟨i, j, a, b, _, c⟩ := iI_ok (CP := fun _ _ => True) (fun _ _ _ => trivial) x y H Q h
  exact ⟨i, j, a, b, c⟩
theorem r_andB : OpR X (binaryOp .BitAnd) (rT2 X.K opAndB) := OpR_mono op_and fun x y H Q h => by
  obtain ⟨i, j, a, b, _, c⟩ := iI_ok (CP := fun _ _ => True) (fun _ _ _ => trivial) x y H Q h
  exact ⟨i, j, a, b, c⟩
theorem r_lt : OpR X (compareOp .Lt) (rT2 X.K opLt) := OpR_mono op_lt iB_ok
theorem r_le : OpR X (compareOp .LtE) (rT2 X.K opLe) := OpR_mono op_le iB_ok
theorem r_gt : OpR X (compareOp .Gt) (rT2 X.K opGt) := OpR_mono op_gt iB_ok
theorem r_ge : OpR X (compareOp .GtE) (rT2 X.K opGe) := OpR_mono op_ge iB_ok
def opNeg : T → Option T := fun t => t.asInt.map fun i => .fr (.int (-i))
theorem r_neg : UnR X (unaryOp .USub) (rT1 X.K opNeg) := UnR_mono un_neg fun x H Q ⟨F, t, z, s, hx, e, k⟩ => by
  obtain ⟨i, e1, e2⟩ := Option.map_eq_some_iff.mp e
  subst e2
  exact ⟨i, hx.asInt e1, Got.int s k⟩

/-! ### plus -/
def cat2 (ds es : List PyData) : Bool := decide (ds.length + es.length ≤ sizeLine)
def opAdd : T → T → Option T
  | .fr (.int i), .fr (.int j) => some (.fr (.int (i + j)))
  | .fr (.str x), .fr (.str y) => if x.length + y.length ≤ sizeLine then some (.fr (.str (x ++ y))) else none
  | t, u => match t.asLst, u.asLst with
    | some ds, some es => if cat2 ds es then some (.lst ((ds ++ es).map T.fr)) else none
    | _, _ => match t.asTup, u.asTup with
      | some ds, some es => if !ds.isEmpty && !es.isEmpty && cat2 ds es then some (.fr (.tuple (ds ++ es))) else none
      | _, _ => none
theorem r_add : OpR X (binaryOp .Add) (rT2 X.K opAdd) := OpR_mono (OpR.or op_add (OpR.or op_add_str (OpR.or op_cat op_catT))) fun x y H Q ⟨F, t, u, z, s, hx, hy, e, k⟩ => by
  unfold opAdd at e
  split at e
  · have e := Option.some.inj e
    subst e
    exact .inl ⟨_, _, hx.int, hy.int, Got.int s k⟩
  · split at e
    · rename_i hl
      have e := Option.some.inj e
      subst e
      exact .inr (.inl ⟨_, _, hx.str, hy.str, hl, Got.str s k⟩)
    · cases e
  · split at e
    · rename_i ds es e1 e2
      split at e
      · rename_i hl
        have e := Option.some.inj e
        subst e
        obtain ⟨a, xs, ex, ha, da⟩ := hx.asLst s e1
        obtain ⟨b, ys, ey, hb, db⟩ := hy.asLst s e2
        refine .inr (.inr (.inl ⟨a, b, xs, ys, ex, ey, ha, hb, ?_, Got.lst s k (DpAll.append da db)⟩))
        rw [DpAll.length da, DpAll.length db]
        exact of_decide_eq_true hl
      · cases e
    · split at e
      · rename_i ds es e1 e2
        split at e
        · rename_i hl
          have e := Option.some.inj e
          subst e
          rw [Bool.and_eq_true, Bool.and_eq_true] at hl
          obtain ⟨a, xs, ex, ha, da⟩ := hx.asTup s e1
          obtain ⟨b, ys, ey, hb, db⟩ := hy.asTup s e2
          have n1 : xs ≠ [] := fun z => by
            subst z
            cases da
            exact absurd hl.1.1 (by simp)
          have n2 : ys ≠ [] := fun z => by
            subst z
            cases db
            exact absurd hl.1.2 (by simp)
          refine .inr (.inr (.inr ⟨a, b, xs, ys, ex, ey, ha, hb, n1, ?_, ?_, fun _ => Got.tup s k (DpAll.append da db)⟩))
          · rw [DpAll.length da, DpAll.length db]
            exact of_decide_eq_true hl.2
          · exact fun z => absurd z n2
        · cases e
      · cases e

/-! ### times -/
def opMul : T → T → Option T
  | .fr (.int i), .fr (.int j) => if mulOk i j then some (.fr (.int (i * j))) else none
  | t, u => match t.asLst, u.asInt with
    | some ds, some k => if decide (-(2 ^ 63) ≤ k) && decide (k < 2 ^ 63) && decide (ds.length * k.toNat ≤ sizeLine) then some (.lst (((List.replicate k.toNat ds).flatten).map T.fr)) else none
    | _, _ => none
theorem DpAll.rep {xs : List V} {ds : List PyData} (h : DpAll K F xs ds) : ∀ n : Nat, DpAll K F (List.replicate n xs).flatten (List.replicate n ds).flatten
  | 0 => .nil
  | n + 1 => by
    rw [List.replicate_succ, List.replicate_succ, List.flatten_cons, List.flatten_cons]
    exact DpAll.append h (DpAll.rep h n)
theorem r_mul : OpR X (binaryOp .Mult) (rT2 X.K opMul) := OpR_mono (OpR.or op_mul op_rep) fun x y H Q ⟨F, t, u, z, s, hx, hy, e, k⟩ => by
  unfold opMul at e
  split at e
  · split at e
    · rename_i hc
      have e := Option.some.inj e
      subst e
      exact .inl ⟨_, _, hx.int, hy.int, mulOk_of hc, Got.int s k⟩
    · cases e
  · split at e
    · rename_i ds n e1 e2
      split at e
      · rename_i hl
        simp only [Bool.and_eq_true, decide_eq_true_eq] at hl
        have e := Option.some.inj e
        subst e
        obtain ⟨a, xs, ex, ha, da⟩ := hx.asLst s e1
        refine .inr ⟨a, n, xs, ex, hy.asInt e2, ha, hl.1.1, hl.1.2, ?_, Got.lst s k (DpAll.rep da _)⟩
        rw [DpAll.length da]
        exact hl.2
      · cases e
    · cases e

/-! ### equality, membership, None -/
def scalD : PyData → PyData → Bool
  | .int _, .int _ => true
  | .str _, .str _ => true
  | .bool _, .bool _ => true
  | _, _ => false
def eqD (d e : PyData) : Option Bool := if scalD d e then some (PyData.eqv d e) else if SeqAt.shaped d && SeqAt.shaped e then some (PyData.eqv d e) else none
def opEq (t u : T) : Option T := t.erase.bind fun d => u.erase.bind fun e => (eqD d e).map fun b => .fr (.bool b)
def opNe (t u : T) : Option T := t.erase.bind fun d => u.erase.bind fun e => (eqD d e).map fun b => .fr (.bool (!b))
theorem eq_cases {x y : V} {t u : T} {d e : PyData} {b : Bool} (s : Same F H) (hx : Rd K F H x t) (hy : Rd K F H y u) (e1 : t.erase = some d) (e2 : u.erase = some e) (h : eqD d e = some b) :
    (scal x y = true ∧ decide (x = y) = b) ∨ (L2.Dp K H x d ∧ L2.Dp K H y e ∧ SeqAt.shaped d = true ∧ SeqAt.shaped e = true ∧ PyData.eqv d e = b) := by
  have dx := hx.data s e1
  have dy := hy.data s e2
  unfold eqD at h
  split at h
  · rename_i hs
    have h := Option.some.inj h
    subst h
    refine .inl ?_
    unfold scalD at hs
    split at hs
    · cases dx; cases dy; exact ⟨rfl, dec_int.trans (by simp [PyData.eqv])⟩
    · cases dx; cases dy; exact ⟨rfl, dec_str.trans (by simp [PyData.eqv])⟩
    · cases dx; cases dy; exact ⟨rfl, dec_bl.trans (by simp [PyData.eqv])⟩
    · cases hs
  · split at h
    · rename_i hs
      rw [Bool.and_eq_true] at hs
      exact .inr ⟨dx.to, dy.to, hs.1, hs.2, Option.some.inj h⟩
    · cases h
theorem r_eq (hu : X.A.units + 64 < cLine) : OpR X (compareOp .Eq) (rT2 X.K opEq) := OpR_mono (OpR.or op_eq (op_eqD hu)) fun x y H Q ⟨F, t, u, z, s, hx, hy, e, k⟩ => by
  obtain ⟨d, e1, e2⟩ := Option.bind_eq_some_iff.mp e
  obtain ⟨d', e3, e4⟩ := Option.bind_eq_some_iff.mp e2
  obtain ⟨b, e5, e6⟩ := Option.map_eq_some_iff.mp e4
  subst e6
  rcases eq_cases s hx hy e1 e3 e5 with ⟨h1, h2⟩ | ⟨h1, h2, h3, h4, h5⟩
  · exact .inl ⟨h1, by rw [h2]; exact Got.bool s k⟩
  · exact .inr ⟨d, d', h1, h2, h3, h4, by rw [h5]; exact Got.bool s k⟩
theorem r_ne (hu : X.A.units + 64 < cLine) : OpR X (compareOp .NotEq) (rT2 X.K opNe) := OpR_mono (OpR.or op_ne (op_neD hu)) fun x y H Q ⟨F, t, u, z, s, hx, hy, e, k⟩ => by
  obtain ⟨d, e1, e2⟩ := Option.bind_eq_some_iff.mp e
  obtain ⟨d', e3, e4⟩ := Option.bind_eq_some_iff.mp e2
  obtain ⟨b, e5, e6⟩ := Option.map_eq_some_iff.mp e4
  subst e6
  rcases eq_cases s hx hy e1 e3 e5 with ⟨h1, h2⟩ | ⟨h1, h2, h3, h4, h5⟩
  · exact .inl ⟨h1, by rw [h2]; exact Got.bool s k⟩
  · exact .inr ⟨d, d', h1, h2, h3, h4, by rw [h5]; exact Got.bool s k⟩
def T.isNone : T → Bool
  | .fr .none => true
  | _ => false
def opIsN (t u : T) : Option T := if u.isNone then some (.fr (.bool t.isNone)) else none
def opNotN (t u : T) : Option T := if u.isNone then some (.fr (.bool (!t.isNone))) else none
theorem none_dec {x : V} {t : T} (hx : Rd K F H x t) : decide (x = V.non) = t.isNone := by
  cases t with
  | fr d =>
    have hd := hx.fr
    cases d with
    | none => cases hd; rfl
    | bool _ => cases hd; rfl
    | int _ => cases hd; rfl
    | str _ => cases hd; rfl
    | list _ => cases hd; rfl
    | tuple _ => cases hd; rfl
    | dict _ => cases hd
  | lst _ => obtain ⟨S, o⟩ := hx; cases o; rfl
  | tup _ => obtain ⟨S, o⟩ := hx; cases o; rfl
  | dic _ _ => obtain ⟨S, o⟩ := hx; cases o; rfl
  | scr _ => obtain ⟨S, o⟩ := hx; cases o; rfl
theorem r_isN : OpR X (compareOp .Is) (rT2 X.K opIsN) := OpR_mono op_isN fun x y H Q ⟨F, t, u, z, s, hx, hy, e, k⟩ => by
  unfold opIsN at e
  split at e
  · rename_i hu
    have e := Option.some.inj e
    subst e
    exact ⟨of_decide_eq_true ((none_dec hy).trans hu), by rw [none_dec hx]; exact Got.bool s k⟩
  · cases e
theorem r_notN : OpR X (compareOp .IsNot) (rT2 X.K opNotN) := OpR_mono op_notN fun x y H Q ⟨F, t, u, z, s, hx, hy, e, k⟩ => by
  unfold opNotN at e
  split at e
  · rename_i hu
    have e := Option.some.inj e
    subst e
    exact ⟨of_decide_eq_true ((none_dec hy).trans hu), by rw [none_dec hx]; exact Got.bool s k⟩
  · cases e
/-- a key of a dict -/
def T.asKey : T → Option Key
  | .fr (.int i) => some (.inl i)
  | .fr (.str x) => some (.inr x)
  | _ => none
theorem Rd.asKey {v : V} {t : T} {k : Key} (h : Rd K F H v t) (e : t.asKey = some k) : v = kV k := by
  unfold T.asKey at e
  split at e
  · have e := Option.some.inj e; subst e; exact h.int
  · have e := Option.some.inj e; subst e; exact h.str
  · cases e
def isInD (d : PyData) (ds : List PyData) (c : PyData) : Option Bool := if SeqAt.shaped d && SeqAt.shaped c then some (ds.any fun z => PyData.eqv z d) else none
def memT (t u : T) : Option Bool := match u with
  | .fr (.str y) => match t with
    | .fr (.str x) => if x.cps.size = 1 then some (decide (x.cps.getD 0 0 ∈ y.cps.toList)) else some (!(Builtin.Str.occurrences y x 0 y.length 1).isEmpty)
    | _ => none
  | .dic ks _ => t.asKey.map fun k => ks.any fun j => decide (j = k)
  | u => match u.asLst with
    | some ds => t.erase.bind fun d => isInD d ds (.list ds)
    | none => match u.asTup with
      | some ds => t.erase.bind fun d => isInD d ds (.tuple ds)
      | none => none
def opIn (t u : T) : Option T := (memT t u).map fun b => .fr (.bool b)
def opNotIn (t u : T) : Option T := (memT t u).map fun b => .fr (.bool (!b))
def rInT (K : PySem.W.Frag) (neg : Bool) : R2 := fun x y H Q => ∃ d ds, L2.Dp K H x d ∧ L2.Dp K H y (.tuple ds) ∧ SeqAt.shaped d = true ∧ SeqAt.shaped (.tuple ds) = true ∧ Q (.bl (if neg then !ds.any fun z => PyData.eqv z d else ds.any fun z => PyData.eqv z d)) H
theorem op_inT (hu : X.A.units + 65 < cLine) : OpR X (compareOp .In) (rInT X.K false) := by
  intro pins s σ H x y v u Q I rx ry h
  obtain ⟨d, ds, hx, hy, s1, s2, q⟩ := h
  obtain ⟨as, r1⟩ := Dp.reads I d x v hx rx
  obtain ⟨bs, r2⟩ := Dp.reads I (.tuple ds) y u hy ry
  exact SeqAt.in_tuple_reads r2 r1 (SeqAt.canLay_of_shaped s2) (SeqAt.canLay_of_shaped s1) (room_in_shaped s1 hu) ⟨.bl _, H, I, rfl, q⟩
theorem op_notInT (hu : X.A.units + 65 < cLine) : OpR X (compareOp .NotIn) (rInT X.K true) := by
  intro pins s σ H x y v u Q I rx ry h
  obtain ⟨d, ds, hx, hy, s1, s2, q⟩ := h
  obtain ⟨as, r1⟩ := Dp.reads I d x v hx rx
  obtain ⟨bs, r2⟩ := Dp.reads I (.tuple ds) y u hy ry
  exact SeqAt.notIn_tuple_reads r2 r1 (SeqAt.canLay_of_shaped s2) (SeqAt.canLay_of_shaped s1) (room_in_shaped s1 hu) ⟨.bl _, H, I, rfl, q⟩
theorem op_inDic (hu : X.A.units + 1 < cLine) : OpR X (compareOp .In) (fun x y H Q => ∃ a o, y = .ref a ∧ DGet H a x o ∧ Q (.bl o.isSome) H) := by
  intro pins s σ H x y v u Q I rx ry h
  obtain ⟨a, o, rfl, g, q⟩ := h
  cases ry
  exact d_in hu I g rx fun s' I' => ⟨.bl o.isSome, H, I', rfl, q⟩
theorem op_notInDic (hu : X.A.units + 1 < cLine) : OpR X (compareOp .NotIn) (fun x y H Q => ∃ a o, y = .ref a ∧ DGet H a x o ∧ Q (.bl (!o.isSome)) H) := by
  intro pins s σ H x y v u Q I rx ry h
  obtain ⟨a, o, rfl, g, q⟩ := h
  cases ry
  exact d_notIn hu I g rx fun s' I' => ⟨.bl (!o.isSome), H, I', rfl, q⟩
theorem valV_zip : ∀ {ks : List Key} {xs : List V} {k : Key}, ks.length = xs.length → (valV (ks.zip xs) k).isSome = ks.any fun j => decide (j = k)
  | [], [], k, _ => rfl
  | j :: ks, x :: xs, k, h => by
    have ih := valV_zip (ks := ks) (xs := xs) (k := k) (by simpa using h)
    unfold valV at ih ⊢
    rw [List.zip_cons_cons, List.find?_cons, List.any_cons]
    by_cases e : j = k
    · subst e
      simp
    · simp only [decide_eq_false e, Bool.false_or]
      exact ih
theorem one_sign {x : Str} (h : x.cps.size = 1) : x = ⟨#[x.cps.getD 0 0]⟩ := by
  obtain ⟨c⟩ := x
  congr 1
  apply Array.ext
  · simpa using h
  · intro i h1 h2
    have : i = 0 := by simp at h2; omega
    subst this
    simp [Array.getD, h1]
theorem mem_cases {x y : V} {t u : T} {b : Bool} (s : Same F H) (hx : Rd K F H x t) (hy : Rd K F H y u) (e : memT t u = some b) :
    (∃ c z, x = .str ⟨#[c]⟩ ∧ y = .str z ∧ decide (c ∈ z.cps.toList) = b) ∨ (∃ i j, x = .str i ∧ y = .str j ∧ (!(Builtin.Str.occurrences j i 0 j.length 1).isEmpty) = b) ∨
    (∃ a o, y = .ref a ∧ DGet H a x o ∧ o.isSome = b) ∨
    (∃ d ds, L2.Dp K H x d ∧ L2.Dp K H y (.list ds) ∧ SeqAt.shaped d = true ∧ SeqAt.shaped (.list ds) = true ∧ (ds.any fun z => PyData.eqv z d) = b) ∨
    (∃ d ds, L2.Dp K H x d ∧ L2.Dp K H y (.tuple ds) ∧ SeqAt.shaped d = true ∧ SeqAt.shaped (.tuple ds) = true ∧ (ds.any fun z => PyData.eqv z d) = b) := by
  have all : ∀ {c : PyData → PyData} {d : PyData} {ds : List PyData} , isInD d ds (c (.list ds)) = some b → SeqAt.shaped d = true ∧ SeqAt.shaped (c (.list ds)) = true ∧ (ds.any fun z => PyData.eqv z d) = b := fun {c d ds} h => by
    unfold isInD at h
    split at h
    · rename_i hs
      rw [Bool.and_eq_true] at hs
      exact ⟨hs.1, hs.2, Option.some.inj h⟩
    · cases h
  have lists : ∀ ds, u.asLst = some ds → (t.erase.bind fun d => isInD d ds (.list ds)) = some b → (∃ d ds, L2.Dp K H x d ∧ L2.Dp K H y (.list ds) ∧ SeqAt.shaped d = true ∧ SeqAt.shaped (.list ds) = true ∧ (ds.any fun z => PyData.eqv z d) = b) := fun ds e1 e2 => by
    obtain ⟨d, e3, e4⟩ := Option.bind_eq_some_iff.mp e2
    obtain ⟨a, xs, rfl, ha, da⟩ := hy.asLst s e1
    obtain ⟨h1, h2, h3⟩ := all (c := id) e4
    exact ⟨d, ds, (hx.data s e3).to, .lst (.of ha) (DpAll.to _ _ (DpAll.mono s _ _ da)), h1, h2, h3⟩
  have tups : ∀ ds, u.asTup = some ds → (t.erase.bind fun d => isInD d ds (.tuple ds)) = some b → (∃ d ds, L2.Dp K H x d ∧ L2.Dp K H y (.tuple ds) ∧ SeqAt.shaped d = true ∧ SeqAt.shaped (.tuple ds) = true ∧ (ds.any fun z => PyData.eqv z d) = b) := fun ds e1 e2 => by
    obtain ⟨d, e3, e4⟩ := Option.bind_eq_some_iff.mp e2
    obtain ⟨a, xs, rfl, ha, da⟩ := hy.asTup s e1
    obtain ⟨h1, h2, h3⟩ := all (c := fun _ => .tuple ds) e4
    exact ⟨d, ds, (hx.data s e3).to, .tup ha (DpAll.to _ _ (DpAll.mono s _ _ da)), h1, h2, h3⟩
  unfold memT at e
  split at e
  · rename_i y'
    split at e
    · rename_i x'
      split at e
      · rename_i h1
        refine .inl ⟨x'.cps.getD 0 0, y', ?_, hy.str, Option.some.inj e⟩
        rw [hx.str]
        exact congrArg V.str (one_sign h1)
      · exact .inr (.inl ⟨x', y', hx.str, hy.str, Option.some.inj e⟩)
    · cases e
  · rename_i ks ts
    obtain ⟨k, e1, e2⟩ := Option.map_eq_some_iff.mp e
    obtain ⟨S, o⟩ := hy
    cases o with
    | @dic _ _ xs _ _ a b' hz c => exact .inr (.inr (.inl ⟨_, valV (ks.zip xs) k, rfl, by rw [hx.asKey e1]; exact DGet.k b', (valV_zip hz).trans e2⟩))
  · split at e
    · rename_i ds e1
      exact .inr (.inr (.inr (.inl (lists ds e1 e))))
    · split at e
      · rename_i ds e1
        exact .inr (.inr (.inr (.inr (tups ds e1 e))))
      · cases e
theorem r_in (hu : X.A.units + 65 < cLine) : OpR X (compareOp .In) (rT2 X.K opIn) := OpR_mono (OpR.or op_in_sign (OpR.or op_in_str (OpR.or (op_inDic (by omega)) (OpR.or (op_inD hu) (op_inT hu))))) fun x y H Q ⟨F, t, u, z, s, hx, hy, e, k⟩ => by
  obtain ⟨b, e1, rfl⟩ := Option.map_eq_some_iff.mp e
  have q : Q (.bl b) H := Got.bool s k
  rcases mem_cases s hx hy e1 with ⟨c, z, h1, h2, h3⟩ | ⟨i, j, h1, h2, h3⟩ | ⟨a, o, h1, h2, h3⟩ | ⟨d, ds, h1, h2, h3, h4, h5⟩ | ⟨d, ds, h1, h2, h3, h4, h5⟩
  · exact .inl ⟨c, z, h1, h2, by rw [h3]; exact q⟩
  · exact .inr (.inl ⟨i, j, h1, h2, by rw [h3]; exact q⟩)
  · exact .inr (.inr (.inl ⟨a, o, h1, h2, by rw [h3]; exact q⟩))
  · exact .inr (.inr (.inr (.inl ⟨d, ds, h1, h2, h3, h4, by rw [h5]; exact q⟩)))
  · exact .inr (.inr (.inr (.inr ⟨d, ds, h1, h2, h3, h4, by rw [h5]; exact q⟩)))
theorem r_notIn (hu : X.A.units + 65 < cLine) : OpR X (compareOp .NotIn) (rT2 X.K opNotIn) := OpR_mono (OpR.or op_notIn_sign (OpR.or op_notin_str (OpR.or (op_notInDic (by omega)) (OpR.or (op_notInD hu) (op_notInT hu))))) fun x y H Q ⟨F, t, u, z, s, hx, hy, e, k⟩ => by
  obtain ⟨b, e1, rfl⟩ := Option.map_eq_some_iff.mp e
  have q : Q (.bl (!b)) H := Got.bool s k
  rcases mem_cases s hx hy e1 with ⟨c, z, h1, h2, h3⟩ | ⟨i, j, h1, h2, h3⟩ | ⟨a, o, h1, h2, h3⟩ | ⟨d, ds, h1, h2, h3, h4, h5⟩ | ⟨d, ds, h1, h2, h3, h4, h5⟩
  · exact .inl ⟨c, z, h1, h2, by rw [h3]; exact q⟩
  · exact .inr (.inl ⟨i, j, h1, h2, by rw [h3]; exact q⟩)
  · exact .inr (.inr (.inl ⟨a, o, h1, h2, by rw [h3]; exact q⟩))
  · exact .inr (.inr (.inr (.inl ⟨d, ds, h1, h2, h3, h4, by rw [h5]; exact q⟩)))
  · exact .inr (.inr (.inr (.inr ⟨d, ds, h1, h2, h3, h4, by rw [if_pos rfl, h5]; exact q⟩)))
end
end DL

/-! DL9: items, slices, lengths, lists' methods, more built-ins. -/
namespace DL
open PySem PySem.Spec PyProof.Rows L2
section
variable {K : PySem.W.Frag} {P P' : Gh} {F F' F1 F2 H H' H1 H2 : Hp} {A A' A1 A2 : Nat → List Addr} {ρ ρ' ρ1 ρ2 ρ3 : MS} {σ σ' σ2 : L2.St} {q qa qb qi qt qe : Bool} {X : Cx} {pos : Pos}
/-! ### a[b] -/
def dicGet : List Key → List T → Key → Option T
  | j :: ks, t :: ts, k => if j = k then some t else dicGet ks ts k
  | _, _, _ => none
def opIx (t u : T) : Option T := match t with
  | .fr (.str z) => if z.length ≤ sizeLine then u.asInt.bind fun i => (atI z.cps.toList i).map fun c => .fr (.str ⟨#[c]⟩) else none
  | .dic ks ts => u.asKey.bind fun k => match dicGet ks ts k with
    | some (.fr d) => some (.fr d)
    | _ => none
  | t => match t.asList with
    | some ds => u.asInt.bind fun i => (atI ds i).map T.fr
    | none => match t.asTup with
      | some ds => u.asInt.bind fun i => (atI ds i).map T.fr
      | none => none
theorem atI_map {xs : List V} {ds : List PyData} {i : Int} {d : PyData} (h : DpAll K F xs ds) (e : atI ds i = some d) : ∃ v, atI xs i = some v ∧ Dp K F v d := by
  unfold atI at e ⊢
  obtain ⟨j, e1, e2⟩ := Option.bind_eq_some_iff.mp e
  obtain ⟨v, e3, hd⟩ := DpAll.get h e2
  exact ⟨v, by rw [DpAll.length h, e1]; exact e3, hd⟩
theorem ix_dict (hu : X.A.units + 1 < cLine) : IxR X (fun x y H Q => ∃ a v, x = .ref a ∧ DGet H a y (some v) ∧ Q v H) := by
  intro value slice pins s σ H x y v u Q I rx ry h hs
  obtain ⟨a, r, rfl, g, q⟩ := h
  obtain rfl : v = Value.ref a := rx
  exact tail_any (dict_typeIs I g) PySem.F.slot_dict_getitem.lookup (d_getItem hu I g ry fun w' s' I' rw' => ⟨r, H, I', rw', q⟩) hs
theorem dicGet_val : ∀ {ks : List Key} {xs : List V} {ts : List T} {S : List Addr} {k : Key} {d : PyData}, OwAll K F H xs ts S → ks.length = xs.length → dicGet ks ts k = some (.fr d) → ∃ v, valV (ks.zip xs) k = some v ∧ Dp K F v d
  | [], _, _, _, _, _, _, _, e => by simp [dicGet] at e
  | j :: ks, _, _, _, k, d, .nil, hl, e => by simp [dicGet] at e
  | j :: ks, x :: xs, t :: ts, _, k, d, .cons a b, hl, e => by
    unfold dicGet at e
    unfold valV
    rw [List.zip_cons_cons, List.find?_cons]
    by_cases hj : j = k
    · rw [if_pos hj] at e
      have e := Option.some.inj e
      subst e
      exact ⟨x, by simp [hj], Rd.fr ⟨_, a⟩⟩
    · rw [if_neg hj] at e
      simp only [decide_eq_false hj]
      exact dicGet_val b (by simpa using hl) e
theorem r_ix (hu : X.A.units + 1 < cLine) : IxR X (rT2 X.K opIx) := IxR_mono (IxR.or (ix_seq (X := X)) (ix_dict hu)) fun x y H Q ⟨F, t, u, z, s, hx, hy, e, k⟩ => by
  unfold opIx at e
  split at e
  · rename_i y'
    split at e
    · rename_i hl
      obtain ⟨i, e1, e2⟩ := Option.bind_eq_some_iff.mp e
      obtain ⟨c, e3, e4⟩ := Option.map_eq_some_iff.mp e2
      subst e4
      exact .inl (.inr (.inr ⟨y', i, c, hx.str, hy.asInt e1, hl, e3, Got.str s k⟩))
    · cases e
  · rename_i ks ts
    obtain ⟨ky, e1, e2⟩ := Option.bind_eq_some_iff.mp e
    split at e2
    · rename_i d e3
      have e2 := Option.some.inj e2
      subst e2
      obtain ⟨S, o⟩ := hx
      cases o with
      | @dic _ _ xs _ _ a b' hz c =>
        obtain ⟨v, e4, hd⟩ := dicGet_val c hz e3
        exact .inr ⟨_, v, rfl, by rw [hy.asKey e1, ← e4]; exact DGet.k b', Got.fr s k hd⟩
    · cases e2
  · split at e
    · rename_i ds e0
      obtain ⟨i, e1, e2⟩ := Option.bind_eq_some_iff.mp e
      obtain ⟨c, e3, e4⟩ := Option.map_eq_some_iff.mp e2
      subst e4
      obtain ⟨a, xs, ex, ha, da⟩ := hx.asList s e0
      obtain ⟨v, e5, hd⟩ := atI_map da e3
      exact .inl (.inl ⟨a, xs, i, v, ex, hy.asInt e1, ha, e5, Got.fr s k hd⟩)
    · split at e
      · rename_i ds e0
        obtain ⟨i, e1, e2⟩ := Option.bind_eq_some_iff.mp e
        obtain ⟨c, e3, e4⟩ := Option.map_eq_some_iff.mp e2
        subst e4
        obtain ⟨a, xs, ex, ha, da⟩ := hx.asTup s e0
        obtain ⟨v, e5, hd⟩ := atI_map da e3
        exact .inl (.inr (.inl ⟨a, xs, i, v, ex, hy.asInt e1, ha, e5, Got.fr s k hd⟩))
      · cases e

/-! ### slices -/
/-- one end of a slice -/
def tO (K : PySem.W.Frag) (q : Bool) (g : M (Option Int)) : TO := fun σ H Q => ∃ P F A ρ z ρ', Good K P F A ρ σ H ∧ g ρ = some (z, ρ') ∧
  ∀ F' A' H', Good K P F' A' ρ' σ H' → Ext q F A H F' A' H' → Q z H'
def oNone : M (Option Int) := fun ρ => some (none, ρ)
def oSome (g : M R) : M (Option Int) := fun ρ => (g ρ).bind fun x => (look x.2 x.1).bind fun t => t.asInt.map fun i => (some i, x.2)
theorem PO_mono {e : Option Expr} {t t' : TO} (h : PO X e t) (m : ∀ σ H Q, t' σ H Q → t σ H Q) : PO X e t' := ⟨fun pins s σ H Q I z => h.run pins s σ H Q I (m σ H Q z)⟩
theorem o_none : PO X none (tO X.K true oNone) := PO_mono po_none fun σ H Q ⟨P, F, A, ρ, z, ρ', G, e, k⟩ => by
  injection (show some ((none : Option Int), ρ) = some (z, ρ') from e) with e
  injection e with e1 e2
  subst e1 e2
  exact k F A H G Ext.refl
variable {e e2 : Expr} {g ga gb : M R} {ol oh : M (Option Int)}
theorem o_some (h : PE X e (tE X.K q g)) : PO X (some e) (tO X.K q (oSome g)) := PO_mono (po_some h) fun σ H Q ⟨P, F, A, ρ, z, ρ', G, e, k⟩ => by
  obtain ⟨⟨x, ρ1⟩, e1, e2⟩ := Option.bind_eq_some_iff.mp (show ((g ρ).bind _) = some (z, ρ') from e)
  obtain ⟨t, e3, e4⟩ := Option.bind_eq_some_iff.mp e2
  obtain ⟨i, e5, e6⟩ := Option.map_eq_some_iff.mp e4
  injection e6 with e7 e8
  subst e7 e8
  exact ⟨P, F, A, ρ, x, ρ1, G, e1, fun F1 A1 H1 v G1 E1 R1 => ⟨i, (R1.look G1 e3).asInt e5, k F1 A1 H1 G1 E1⟩⟩
def cutD (ds : List PyData) (lo hi : Option Int) : List PyData := (ds.drop (HT.sIx ds.length 0 lo)).take (HT.sIx ds.length ds.length hi - HT.sIx ds.length 0 lo)
def sliceT (f : T → Option Int → Option Int → Option T) (qs : Bool) (g : M R) (ol oh : M (Option Int)) : M R := fun ρ => (g ρ).bind fun x => (ol x.2).bind fun l => (oh l.2).bind fun h =>
  if x.1.waits qs = true then (look h.2 x.1).bind fun t => (f t l.1 h.1).map fun r => (.val r, h.2) else none
def rSl (K : PySem.W.Frag) (f : T → Option Int → Option Int → Option T) : V → Option Int → Option Int → Hp → VK → Prop := fun x l h H Q => ∃ F t r, Same F H ∧ Rd K F H x t ∧ f t l h = some r ∧ Got K F H r Q
theorem e_slice {lo hi : Option Expr} {p2 : Pos} {f : T → Option Int → Option Int → Option T} (hr : SlR X (rSl X.K f)) (he : PE X e (tE X.K q g)) (hl : PO X lo (tO X.K qa ol)) (hu : PO X hi (tO X.K qb oh)) :
    PE X (.Subscript e (.Slice lo hi none p2) pos) (tE X.K (q && (qa && qb)) (sliceT f (qa && qb) g ol oh)) := PE_mono (pe_slice hr he hl hu) fun σ H Q ⟨P, F, A, ρ, z, ρ', G, e, k⟩ => by
  obtain ⟨⟨x, ρ1⟩, e1, e2⟩ := Option.bind_eq_some_iff.mp (show ((g ρ).bind _) = some (z, ρ') from e)
  obtain ⟨⟨l, ρ2⟩, e3, e4⟩ := Option.bind_eq_some_iff.mp e2
  obtain ⟨⟨h, ρ3⟩, e5, e6⟩ := Option.bind_eq_some_iff.mp e4
  have e6 : (if x.waits (qa && qb) = true then (look ρ3 x).bind fun t => (f t l h).map fun r => (R.val r, ρ3) else none) = some (z, ρ') := e6
  split at e6
  · rename_i w
    obtain ⟨t, e7, e8⟩ := Option.bind_eq_some_iff.mp e6
    obtain ⟨r, e9, e10⟩ := Option.map_eq_some_iff.mp e8
    injection e10 with e11 e12
    subst e11 e12
    refine ⟨P, F, A, ρ, x, ρ1, G, e1, fun F1 A1 H1 v G1 E1 R1 => ?_⟩
    refine ⟨P, F1, A1, ρ1, l, ρ2, G1, e3, fun F2 A2 H2 G2 E2 => ?_⟩
    refine ⟨P, F2, A2, ρ2, h, ρ3, G2, e5, fun F3 A3 H3 G3 E3 => ?_⟩
    refine ⟨F3, t, r, G3.same, (R1.wait (E2.trans E3) w).look G3 e7, e9, fun F4 H4 v' S gr o nd n => ?_⟩
    exact k F4 A3 H4 v' (G3.grow gr) ((((E1.trans E2).trans E3).trans (gr.ext (q := true))).le (by simp; intro a b c; simp [a, b, c])) ((G3.newRx o nd n).le fun a m => ((E1.trans E2).trans E3).nw' m)
  · cases e6
def opSl (t : T) (l h : Option Int) : Option T := match t with
  | .fr (.str z) => if z.length ≤ sizeLine then some (.fr (.str (cutS z l h))) else none
  | t => match t.asList with
    | some ds => some (.lst ((cutD ds l h).map T.fr))
    | none => none
theorem DpAll.cut {xs : List V} {ds : List PyData} (h : DpAll K F xs ds) (l u : Option Int) : DpAll K F (cutV xs l u) (cutD ds l u) := by
  unfold cutV cutD
  rw [DpAll.length h]
  exact DpAll.take _ (DpAll.drop _ h)
theorem SlR_mono {r r' : V → Option Int → Option Int → Hp → VK → Prop} (h : SlR X r) (m : ∀ x l u H Q, r' x l u H Q → r x l u H Q) : SlR X r' := fun pins s σ H x v vl vu lo hi sl Q I rx hs pl pu z => h pins s σ H x v vl vu lo hi sl Q I rx hs pl pu (m x lo hi H Q z)
theorem r_sl : SlR X (rSl X.K opSl) := SlR_mono (SlR.or sl_str sl_list) fun x l u H Q ⟨F, t, r, s, hx, e, k⟩ => by
  unfold opSl at e
  split at e
  · split at e
    · rename_i hl
      have e := Option.some.inj e
      subst e
      exact .inl ⟨_, hx.str, hl, Got.str s k⟩
    · cases e
  · split at e
    · rename_i ds e0
      have e := Option.some.inj e
      subst e
      obtain ⟨a, xs, ex, ha, da⟩ := hx.asList s e0
      exact .inr ⟨a, xs, ex, ha, Got.lst s k (DpAll.cut da l u)⟩
    · cases e

/-! ### len, abs, int, list, tuple, range -/
def opLen : T → Option T
  | .fr (.str z) => if z.length ≤ sizeLine then some (.fr (.int z.length)) else none
  | .lst ts => some (.fr (.int ts.length))
  | .tup ts => some (.fr (.int ts.length))
  | .dic ks _ => some (.fr (.int ks.length))
  | t => match t.asList with
    | some ds => some (.fr (.int ds.length))
    | none => match t.asTup with
      | some ds => some (.fr (.int ds.length))
      | none => none
theorem r_len : CallR X (.builtin "len") (rT11 X.K opLen) := CallR_mono (CallR.or call_len_seq (CallR.or call_len_str call_lenD)) fun vs H Q ⟨x, ev, F, t, z, s, hx, e, k⟩ => by
  subst ev
  unfold opLen at e
  split at e
  · split at e
    · rename_i hl
      have e := Option.some.inj e
      subst e
      exact .inr (.inl ⟨_, by rw [hx.str], hl, Got.int s k⟩)
    · cases e
  · have e := Option.some.inj e
    subst e
    obtain ⟨S, o⟩ := hx
    cases o with
    | lst a b c => exact .inl ⟨_, _, rfl, .inl (.of b), by rw [OwAll.length c]; exact Got.int s k⟩
  · have e := Option.some.inj e
    subst e
    obtain ⟨S, o⟩ := hx
    cases o with
    | tup a b c => exact .inl ⟨_, _, rfl, .inr (.of b), by rw [OwAll.length c]; exact Got.int s k⟩
  · have e := Option.some.inj e
    subst e
    obtain ⟨S, o⟩ := hx
    cases o with
    | dic a b hz c => exact .inr (.inr ⟨_, _, rfl, b, by rw [List.length_zip, hz, Nat.min_self, ← hz]; exact Got.int s k⟩)
  · split at e
    · rename_i ds e0
      have e := Option.some.inj e
      subst e
      obtain ⟨a, xs, ex, ha, da⟩ := hx.asList s e0
      exact .inl ⟨a, xs, by rw [ex], .inl ha, by rw [DpAll.length da]; exact Got.int s k⟩
    · split at e
      · rename_i ds e0
        have e := Option.some.inj e
        subst e
        obtain ⟨a, xs, ex, ha, da⟩ := hx.asTup s e0
        exact .inl ⟨a, xs, by rw [ex], .inr ha, by rw [DpAll.length da]; exact Got.int s k⟩
      · cases e
def opAbs (t : T) : Option T := t.asInt.map fun i => .fr (.int (if i < 0 then -i else i))
theorem r_abs : CallR X (.builtin "abs") (rT11 X.K opAbs) := CallR_mono call_abs fun vs H Q ⟨x, ev, F, t, z, s, hx, e, k⟩ => by
  obtain ⟨i, e1, rfl⟩ := Option.map_eq_some_iff.mp e
  exact ⟨i, by rw [ev, hx.asInt e1], Got.int s k⟩
def opInt : T → Option T
  | .fr (.int i) => some (.fr (.int i))
  | .fr (.bool b) => some (.fr (.int (if b then 1 else 0)))
  | _ => none
theorem r_int : CallR X (.type "int") (rT11 X.K opInt) := CallR_mono call_int1 fun vs H Q ⟨x, ev, F, t, z, s, hx, e, k⟩ => by
  subst ev
  unfold opInt at e
  split at e
  · have e := Option.some.inj e
    subst e
    exact .inl ⟨_, by rw [hx.int], Got.int s k⟩
  · have e := Option.some.inj e
    subst e
    exact .inr ⟨_, by rw [hx.bool], Got.int s k⟩
  · cases e
def opListOf (t : T) : Option T := match t.asList with
  | some ds => some (.lst (ds.map T.fr))
  | none => match t.asTup with
    | some ds => some (.lst (ds.map T.fr))
    | none => none
theorem r_listOf : CallR X (.type "list") (rT11 X.K opListOf) := CallR_mono call_list_of fun vs H Q ⟨x, ev, F, t, z, s, hx, e, k⟩ => by
  subst ev
  unfold opListOf at e
  split at e
  · rename_i ds e0
    have e := Option.some.inj e
    subst e
    obtain ⟨a, xs, ex, ha, da⟩ := hx.asList s e0
    exact ⟨a, xs, by rw [ex], .inl ha, Got.lst s k da⟩
  · split at e
    · rename_i ds e0
      have e := Option.some.inj e
      subst e
      obtain ⟨a, xs, ex, ha, da⟩ := hx.asTup s e0
      exact ⟨a, xs, by rw [ex], .inr ha, Got.lst s k da⟩
    · cases e
def opTupOf : T → Option T
  | .fr (.tuple ds) => some (.fr (.tuple ds))
  | t => match t.asList with
    | some ds => some (.fr (.tuple ds))
    | none => none
theorem r_tupOf : CallR X (.type "tuple") (rT11 X.K opTupOf) := CallR_mono call_tuple_of fun vs H Q ⟨x, ev, F, t, z, s, hx, e, k⟩ => by
  subst ev
  unfold opTupOf at e
  split at e
  · have e := Option.some.inj e
    subst e
    have hd := hx.fr
    cases hd with
    | tup a b => exact ⟨_, _, rfl, .inr ⟨SqT.same s a, Got.fr s k (.tup a b)⟩⟩
  · split at e
    · rename_i ds e0
      have e := Option.some.inj e
      subst e
      obtain ⟨a, xs, ex, ha, da⟩ := hx.asList s e0
      exact ⟨a, xs, by rw [ex], .inl ⟨ha, Got.tup s k da⟩⟩
    · cases e
/-- list(range(n)), list(range(a, b)) -/
def rgLine (a b : Int) : Bool := bnd a && bnd b && decide ((b - a).toNat ≤ 2 ^ 24)
def eRange1 (g : M R) : M R := fun ρ => (g ρ).bind fun x => (look x.2 x.1).bind fun t => t.asInt.bind fun n => if rgLine 0 n then some (.val (.lst ((rngD 0 n.toNat).map T.fr)), x.2) else none
theorem dp_rng : ∀ (a : Int) (n : Nat), DpAll K F ((List.range n).map fun i => V.int (a + (i : Nat))) (rngD a n) := fun a n => by
  unfold rngD
  generalize List.range n = l
  induction l with
  | nil => exact .nil
  | cons i l ih => exact .cons (.int _) ih
theorem rgLine_of {a b : Int} (h : rgLine a b = true) : RgOk a b := by
  simp only [rgLine, Bool.and_eq_true, decide_eq_true_eq] at h
  exact ⟨(bnd_of h.1.1).1, (bnd_of h.1.1).2, (bnd_of h.1.2).1, (bnd_of h.1.2).2, h.2⟩
variable {p p1 : Pos} {a : Expr}
theorem e_listRange1 (hc : X.calm = true) (hg : Gl X "list") (hm : X.mg "list" = none) (hg1 : Gl X "range") (hm1 : X.mg "range" = none) (ha : PE X a (tE X.K q g)) (na1 : starEach [a] X.env = (false, eval a X.env) :: starEach [] X.env := by rfl)
    (na : starEach [(Expr.Call (.Name "range" p1) [a] [] pos)] X.env = (false, eval (Expr.Call (.Name "range" p1) [a] [] pos) X.env) :: starEach [] X.env := by rfl) {pos2 : Pos} :
    PE X (.Call (.Name "list" p) [(Expr.Call (.Name "range" p1) [a] [] pos)] [] pos2) (tE X.K q (eRange1 g)) := PE_mono (pe_listRg hc hg hm (prg_1 hg1 hm1 ha na1) na) fun σ H Q ⟨P, F, A, ρ, z, ρ', G, e, k⟩ => by
  obtain ⟨⟨x, ρ1⟩, e1, e2⟩ := Option.bind_eq_some_iff.mp (show ((g ρ).bind _) = some (z, ρ') from e)
  obtain ⟨t, e3, e4⟩ := Option.bind_eq_some_iff.mp e2
  obtain ⟨i, e5, e6⟩ := Option.bind_eq_some_iff.mp e4
  split at e6
  · rename_i hl
    injection e6 with e6
    injection e6 with e7 e8
    subst e7 e8
    refine ⟨P, F, A, ρ, x, ρ1, G, e1, fun F1 A1 H1 v G1 E1 R1 => ⟨i, (R1.look G1 e3).asInt e5, rgLine_of hl, ?_⟩⟩
    have gt : Got X.K F1 H1 (.lst ((rngD 0 i.toNat).map T.fr)) Q := fun F2 H2 v' S gr o nd n => k F2 A1 H2 v' (G1.grow gr) ((E1.trans (gr.ext (q := true))).le (by simp)) ((G1.newRx o nd n).le fun a m => E1.nw' m)
    have hd : DpAll X.K F1 (rgV 0 i) (rngD 0 i.toNat) := by
      have := dp_rng (K := X.K) (F := F1) 0 i.toNat
      unfold rgV
      rw [Int.sub_zero]
      exact this
    exact Got.lst G1.same gt hd
  · cases e6

/-! ### max, min, sum, sorted, all, any -/
def intsD : List PyData → Option (List Int)
  | [] => some []
  | .int i :: ds => (intsD ds).map (i :: ·)
  | _ :: _ => none
theorem ints_of : ∀ {ds : List PyData} {ns : List Int}, intsD ds = some ns → ds = ns.map PyData.int
  | [], ns, h => by cases h; rfl
  | .int i :: ds, ns, h => by
    obtain ⟨ms, e, rfl⟩ := Option.map_eq_some_iff.mp (show (intsD ds).map (i :: ·) = some ns from h)
    rw [ints_of e]; rfl
  | .none :: _, _, h => by cases h
  | .bool _ :: _, _, h => by cases h
  | .str _ :: _, _, h => by cases h
  | .list _ :: _, _, h => by cases h
  | .tuple _ :: _, _, h => by cases h
  | .dict _ :: _, _, h => by cases h
theorem ints_map : ∀ (ns : List Int), intsD (ns.map PyData.int) = some ns
  | [] => rfl
  | n :: ns => by show (intsD (ns.map PyData.int)).map (n :: ·) = _; rw [ints_map ns]; rfl
theorem dp_ints : ∀ {xs : List V} {ns : List Int}, DpAll K F xs (ns.map PyData.int) → xs = ns.map V.int
  | _, [], h => by cases h; rfl
  | _, n :: ns, h => by
    cases h with
    | cons a b =>
      cases a
      rw [dp_ints b]; rfl
theorem dp_of_ints : ∀ (ns : List Int), DpAll K F (ns.map V.int) (ns.map PyData.int)
  | [] => .nil
  | n :: ns => .cons (.int n) (dp_of_ints ns)
def maxOf : Int → List Int → Int
  | m, [] => m
  | m, n :: ns => maxOf (max m n) ns
def minOf : Int → List Int → Int
  | m, [] => m
  | m, n :: ns => minOf (min m n) ns
theorem maxOf_le : ∀ (ns : List Int) (m : Int), m ≤ maxOf m ns ∧ ∀ x ∈ ns, x ≤ maxOf m ns
  | [], m => ⟨Int.le_refl m, fun _ h => nomatch h⟩
  | n :: ns, m => by
    obtain ⟨h1, h2⟩ := maxOf_le ns (max m n)
    unfold maxOf
    refine ⟨by omega, fun x hx => ?_⟩
    rcases List.mem_cons.mp hx with rfl | hx
    · omega
    · exact h2 x hx
theorem maxOf_mem : ∀ (ns : List Int) (m : Int), maxOf m ns = m ∨ maxOf m ns ∈ ns
  | [], m => .inl rfl
  | n :: ns, m => by
    unfold maxOf
    rcases maxOf_mem ns (max m n) with h | h
    · by_cases hm : n ≤ m
      · exact .inl (h.trans (by omega))
      · exact .inr (by rw [h]; simp; omega)
    · exact .inr (List.mem_cons_of_mem _ h)
theorem minOf_le : ∀ (ns : List Int) (m : Int), minOf m ns ≤ m ∧ ∀ x ∈ ns, minOf m ns ≤ x
  | [], m => ⟨Int.le_refl m, fun _ h => nomatch h⟩
  | n :: ns, m => by
    obtain ⟨h1, h2⟩ := minOf_le ns (min m n)
    unfold minOf
    refine ⟨by omega, fun x hx => ?_⟩
    rcases List.mem_cons.mp hx with rfl | hx
    · omega
    · exact h2 x hx
theorem minOf_mem : ∀ (ns : List Int) (m : Int), minOf m ns = m ∨ minOf m ns ∈ ns
  | [], m => .inl rfl
  | n :: ns, m => by
    unfold minOf
    rcases minOf_mem ns (min m n) with h | h
    · by_cases hm : m ≤ n
      · exact .inl (h.trans (by omega))
      · exact .inr (by rw [h]; simp; omega)
    · exact .inr (List.mem_cons_of_mem _ h)
def opMax (t : T) : Option T := t.asList.bind fun ds => (intsD ds).bind fun ns => match ns with
  | [] => none
  | n :: ns => some (.fr (.int (maxOf n ns)))
def opMin (t : T) : Option T := t.asList.bind fun ds => (intsD ds).bind fun ns => match ns with
  | [] => none
  | n :: ns => some (.fr (.int (minOf n ns)))
def opSum (t : T) : Option T := t.asList.bind fun ds => (intsD ds).map fun ns => .fr (.int ns.sum)
theorem asInts {v : V} {t : T} {ds : List PyData} {ns : List Int} (s : Same F H) (h : Rd K F H v t) (e1 : t.asList = some ds) (e2 : intsD ds = some ns) : ∃ a, v = .ref a ∧ SqL K H a (ns.map V.int) := by
  obtain ⟨a, xs, ex, ha, da⟩ := h.asList s e1
  rw [ints_of e2] at da
  rw [dp_ints da] at ha
  exact ⟨a, ex, ha⟩
theorem r_max (hc : X.calm = true) : CallR X (.builtin "max") (rT11 X.K opMax) := CallR_mono (cr_max hc) fun vs H Q ⟨x, ev, F, t, z, s, hx, e, k⟩ => by
  obtain ⟨ds, e1, e2⟩ := Option.bind_eq_some_iff.mp e
  obtain ⟨ns, e3, e4⟩ := Option.bind_eq_some_iff.mp e2
  obtain ⟨a, ex, ha⟩ := asInts s hx e1 e3
  cases ns with
  | nil => cases e4
  | cons n ns =>
    have e4 := Option.some.inj e4
    subst e4
    refine ⟨a, n :: ns, by rw [ev, ex], ha, Nat.succ_pos _, fun m hm hle => ?_⟩
    obtain ⟨h1, h2⟩ := maxOf_le ns n
    have : m = maxOf n ns := by
      have a1 : m ≤ maxOf n ns := by
        rcases List.mem_cons.mp hm with rfl | hm
        · exact h1
        · exact h2 m hm
      have a2 : maxOf n ns ≤ m := by
        rcases maxOf_mem ns n with z | z
        · exact hle _ (by rw [z]; simp)
        · exact hle _ (List.mem_cons_of_mem _ z)
      omega
    rw [this]
    exact Got.int s k
theorem r_min (hc : X.calm = true) : CallR X (.builtin "min") (rT11 X.K opMin) := CallR_mono (cr_min hc) fun vs H Q ⟨x, ev, F, t, z, s, hx, e, k⟩ => by
  obtain ⟨ds, e1, e2⟩ := Option.bind_eq_some_iff.mp e
  obtain ⟨ns, e3, e4⟩ := Option.bind_eq_some_iff.mp e2
  obtain ⟨a, ex, ha⟩ := asInts s hx e1 e3
  cases ns with
  | nil => cases e4
  | cons n ns =>
    have e4 := Option.some.inj e4
    subst e4
    refine ⟨a, n :: ns, by rw [ev, ex], ha, Nat.succ_pos _, fun m hm hle => ?_⟩
    obtain ⟨h1, h2⟩ := minOf_le ns n
    have : m = minOf n ns := by
      have a1 : minOf n ns ≤ m := by
        rcases List.mem_cons.mp hm with rfl | hm
        · exact h1
        · exact h2 m hm
      have a2 : m ≤ minOf n ns := by
        rcases minOf_mem ns n with z | z
        · exact hle _ (by rw [z]; simp)
        · exact hle _ (List.mem_cons_of_mem _ z)
      omega
    rw [this]
    exact Got.int s k
theorem r_sum (hc : X.calm = true) : CallR X (.builtin "sum") (rT11 X.K opSum) := CallR_mono (cr_sum hc) fun vs H Q ⟨x, ev, F, t, z, s, hx, e, k⟩ => by
  obtain ⟨ds, e1, e2⟩ := Option.bind_eq_some_iff.mp e
  obtain ⟨ns, e3, e4⟩ := Option.map_eq_some_iff.mp e2
  subst e4
  obtain ⟨a, ex, ha⟩ := asInts s hx e1 e3
  exact ⟨a, ns, by rw [ev, ex], ha, Got.int s k⟩
/-- the intsD in order -/
def insI (n : Int) : List Int → List Int
  | [] => [n]
  | m :: ms => if n ≤ m then n :: m :: ms else m :: insI n ms
def sortI : List Int → List Int
  | [] => []
  | n :: ns => insI n (sortI ns)
theorem insI_perm (n : Int) : ∀ ms, (insI n ms).Perm (n :: ms)
  | [] => List.Perm.refl _
  | m :: ms => by
    unfold insI
    split
    · exact List.Perm.refl _
    · exact ((insI_perm n ms).cons m).trans (List.Perm.swap n m ms)
theorem sortI_perm : ∀ ns, (sortI ns).Perm ns
  | [] => List.Perm.refl _
  | n :: ns => (insI_perm n (sortI ns)).trans ((sortI_perm ns).cons n)
theorem insI_sorted (n : Int) : ∀ ms, ms.Pairwise (· ≤ ·) → (insI n ms).Pairwise (· ≤ ·)
  | [], _ => by simp [insI]
  | m :: ms, h => by
    unfold insI
    have h' := List.pairwise_cons.mp h
    split
    · rename_i hl
      refine List.pairwise_cons.mpr ⟨fun a ha => ?_, h⟩
      rcases List.mem_cons.mp ha with rfl | ha
      · exact hl
      · exact Int.le_trans hl (h'.1 a ha)
    · rename_i hl
      refine List.pairwise_cons.mpr ⟨fun a ha => ?_, insI_sorted n ms h'.2⟩
      rcases List.mem_cons.mp ((insI_perm n ms).mem_iff.mp ha) with rfl | ha
      · omega
      · exact h'.1 a ha
theorem sortI_sorted : ∀ ns, (sortI ns).Pairwise (· ≤ ·)
  | [] => .nil
  | n :: ns => insI_sorted n _ (sortI_sorted ns)
theorem sorted_unique {as bs : List Int} (hp : as.Perm bs) (ha : as.Pairwise (· ≤ ·)) (hb : bs.Pairwise (· ≤ ·)) : as = bs :=
  List.Perm.eq_of_pairwise (fun a b _ _ h1 h2 => Int.le_antisymm h1 h2) ha hb hp
def opSorted (t : T) : Option T := t.asList.bind fun ds => (intsD ds).map fun ns => .lst (((sortI ns).map PyData.int).map T.fr)
theorem r_sorted : CallR X (.builtin "sorted") (rT11 X.K opSorted) := CallR_mono cr_sortedI fun vs H Q ⟨x, ev, F, t, z, s, hx, e, k⟩ => by
  obtain ⟨ds, e1, e2⟩ := Option.bind_eq_some_iff.mp e
  obtain ⟨ns, e3, e4⟩ := Option.map_eq_some_iff.mp e2
  subst e4
  obtain ⟨a, ex, ha⟩ := asInts s hx e1 e3
  refine ⟨a, ns, by rw [ev, ex], ha, fun ns' p hp hs hn => ?_⟩
  have : ns' = sortI ns := sorted_unique (hp.trans (sortI_perm ns).symm) hs (sortI_sorted ns)
  subst this
  exact Got.lst s k (dp_of_ints _) p hn
def boolsD : List PyData → Option (List Bool)
  | [] => some []
  | .bool i :: ds => (boolsD ds).map (i :: ·)
  | _ :: _ => none
theorem bools_of : ∀ {ds : List PyData} {ns : List Bool}, boolsD ds = some ns → ds = ns.map PyData.bool
  | [], ns, h => by cases h; rfl
  | .bool i :: ds, ns, h => by
    obtain ⟨ms, e, rfl⟩ := Option.map_eq_some_iff.mp (show (boolsD ds).map (i :: ·) = some ns from h)
    rw [bools_of e]; rfl
  | .none :: _, _, h => by cases h
  | .int _ :: _, _, h => by cases h
  | .str _ :: _, _, h => by cases h
  | .list _ :: _, _, h => by cases h
  | .tuple _ :: _, _, h => by cases h
  | .dict _ :: _, _, h => by cases h
theorem bools_map : ∀ (ns : List Bool), boolsD (ns.map PyData.bool) = some ns
  | [] => rfl
  | n :: ns => by show (boolsD (ns.map PyData.bool)).map (n :: ·) = _; rw [bools_map ns]; rfl
theorem dp_bools : ∀ {xs : List V} {ns : List Bool}, DpAll K F xs (ns.map PyData.bool) → xs = ns.map V.bl
  | _, [], h => by cases h; rfl
  | _, n :: ns, h => by
    cases h with
    | cons a b =>
      cases a
      rw [dp_bools b]; rfl
def opAll (t : T) : Option T := t.asList.bind fun ds => (boolsD ds).map fun bs => .fr (.bool (bs.all id))
def opAny (t : T) : Option T := t.asList.bind fun ds => (boolsD ds).map fun bs => .fr (.bool (bs.any id))
theorem r_all (hc : X.calm = true) : CallR X (.builtin "all") (rT11 X.K opAll) := CallR_mono (cr_all hc) fun vs H Q ⟨x, ev, F, t, z, s, hx, e, k⟩ => by
  obtain ⟨ds, e1, e2⟩ := Option.bind_eq_some_iff.mp e
  obtain ⟨bs, e3, e4⟩ := Option.map_eq_some_iff.mp e2
  subst e4
  obtain ⟨a, xs, ex, ha, da⟩ := hx.asList s e1
  rw [bools_of e3] at da
  rw [dp_bools da] at ha
  exact ⟨a, bs, by rw [ev, ex], ha, Got.bool s k⟩
theorem r_any (hc : X.calm = true) : CallR X (.builtin "any") (rT11 X.K opAny) := CallR_mono (cr_any hc) fun vs H Q ⟨x, ev, F, t, z, s, hx, e, k⟩ => by
  obtain ⟨ds, e1, e2⟩ := Option.bind_eq_some_iff.mp e
  obtain ⟨bs, e3, e4⟩ := Option.map_eq_some_iff.mp e2
  subst e4
  obtain ⟨a, xs, ex, ha, da⟩ := hx.asList s e1
  rw [bools_of e3] at da
  rw [dp_bools da] at ha
  exact ⟨a, bs, by rw [ev, ex], ha, Got.bool s k⟩
end
end DL

/-! DL10: comprehensions as statements, list methods, item stores, chains, max with a default, isinstance. -/
namespace DL
open PySem PySem.Spec PyProof.Rows L2
section
variable {K : PySem.W.Frag} {P P' : Gh} {F F' F1 F2 H H' H1 H2 : Hp} {A A' A1 A2 : Nat → List Addr} {ρ ρ' ρ1 ρ2 ρ3 : MS} {σ σ' σ2 : L2.St} {q qa qb qi qt qe : Bool} {X : Cx} {pos : Pos}
/-! ### comprehensions -/
section
variable {elt tg iter : Expr} {ifs : List Expr} {scope : Scope} {own : List (Str × Nat)} {src : Src} {ts : List Nat} {m : GM} {c : M Bool} {el : M R}
theorem e_lc (hc : X.calm = true) (hN : X.N.Nodup) (hi : PI X tg iter (tI X.K qi src)) (ok : BlkOk X.N X.env.scope scope own)
    (hg : ∀ (s : Shared) (H : Hp) (C : Addr) (cl : List (Str × Addr)) (fp : List Addr), PG (X.blk s H scope (compEnvC scope cl C X.env) fp) tg (tG X.K ts m))
    (ht : ∀ (s : Shared) (H : Hp) (C : Addr) (cl : List (Str × Addr)) (fp : List Addr), PTs (X.blk s H scope (compEnvC scope cl C X.env) fp) ifs (tT X.K qt c))
    (he : ∀ (s : Shared) (H : Hp) (C : Addr) (cl : List (Str × Addr)) (fp : List Addr), PE (X.blk s H scope (compEnvC scope cl C X.env) fp) elt (tE X.K qe el))
    (hts : ∀ j ∈ ts, j ∈ own.map (·.2)) (hs : ∀ x, foldedSetIterable iter X.env x = pure x := by intro _; rfl) :
    PE X (.ListComp elt [⟨tg, iter, ifs, 0⟩] scope pos) (tE X.K (qi && (qt && qe)) (lcM src (own.map (·.2)) m c el)) :=
  PE_mono (pe_lc hc hN hi ok hg ht he hs) (lc_tr hts)
theorem s_setLc {i : Nat} {y : Str} {py spos : Pos} (hc : X.calm = true) (hN : X.N.Nodup) (hy : X.N[i]? = some y) (hyl : X.env.scope.names.lookup y = some .local)
    (hi : PI X tg iter (tI X.K qi src)) (ok : BlkOk X.N X.env.scope scope own)
    (hg : ∀ (s : Shared) (H : Hp) (C : Addr) (cl : List (Str × Addr)) (fp : List Addr), PG (X.blk s H scope (compEnvC scope cl C X.env) fp) tg (tG X.K ts m))
    (ht : ∀ (s : Shared) (H : Hp) (C : Addr) (cl : List (Str × Addr)) (fp : List Addr), PTs (X.blk s H scope (compEnvC scope cl C X.env) fp) ifs (tT X.K qt c))
    (he : ∀ (s : Shared) (H : Hp) (C : Addr) (cl : List (Str × Addr)) (fp : List Addr), PE (X.blk s H scope (compEnvC scope cl C X.env) fp) elt (tE X.K qe el))
    (hts : ∀ j ∈ ts, j ∈ own.map (·.2)) (hsw : swapsWith (.ListComp elt [⟨tg, iter, ifs, 0⟩] scope pos) (some (.Name y py)) spos.line X.env = pure true) (hs : ∀ x, foldedSetIterable iter X.env x = pure x := by intro _; rfl) :
    PS X (.Assign [.Name y py] (.ListComp elt [⟨tg, iter, ifs, 0⟩] scope pos) spos) (tS X.K (qi && (qt && qe)) (sSet i (lcM src (own.map (·.2)) m c el))) :=
  PS_mono (ps_setLc hc hN hy hyl hsw hi ok hg ht he hs) fun D σ H h => lc_tr hts σ H _ (set_tr D σ H h)
end

/-! ### lists' own methods -/
theorem OwAll.pick : ∀ {ts : List T} {xs : List V} {S : List Addr} {k : Nat} {t : T}, OwAll K F H xs ts S → ts[k]? = some t →
    ∃ v S1 S2, xs[k]? = some v ∧ Ow K F H v t S1 ∧ OwAll K F H (xs.eraseIdx k) (ts.eraseIdx k) S2 ∧ S.Perm (S1 ++ S2)
  | _, _, _, _, _, .nil, e => by simp at e
  | _, _, _, 0, _, .cons (S1 := S1) (S2 := S2) a b, e => by
    simp at e
    subst e
    exact ⟨_, S1, S2, rfl, a, b, List.Perm.refl _⟩
  | _, _, _, k + 1, _, .cons (S1 := R1) (S2 := R2) a b, e => by
    obtain ⟨v, S1, S2, h1, h2, h3, h4⟩ := OwAll.pick (k := k) b (by simpa using e)
    refine ⟨v, S1, R1 ++ S2, by simpa using h1, h2, .cons a h3, ?_⟩
    refine (List.Perm.append_left R1 h4).trans ?_
    rw [← List.append_assoc, ← List.append_assoc]
    exact List.Perm.append_right S2 List.perm_append_comm
def lAppend : T → List T → Option (T × T)
  | .lst ts, [t] => if ts.length < sizeLine then some (.lst (ts ++ [t]), .fr .none) else none
  | _, _ => none
theorem m_append : MtR X "list.append" (rMut X.K lAppend) := MtR_mono mt_append fun x vs H Q ⟨F, t, us, S, Su, t', r, s, o, ou, nd, e, k⟩ => by
  unfold lAppend at e
  split at e
  · rename_i ts u
    split at e
    · rename_i hl
      have e := Option.some.inj e
      injection e with e1 e2
      subst e1 e2
      cases o with
      | @lst l xs _ S0 a b c =>
        cases ou with
        | @cons v vs' _ _ S1 S2 ov on =>
          cases on
          have hxl := OwAll.length c
          refine ⟨l, xs, v, rfl, rfl, b, by rw [hxl]; exact hl, ?_⟩
          rw [List.append_nil] at nd k
          have ndl := List.nodup_cons.mp nd
          have off : ∀ z ∈ S0 ++ S1, z ≠ l := fun z m e => ndl.1 (e ▸ m)
          have kp : ∀ z ∈ S0 ++ S1, F z = none ∧ upd H l (.lst (xs ++ [v])) z = H z := fun z m => by
            refine ⟨?_, upd_ne (off z m)⟩
            rcases List.mem_append.mp m with m | m
            · exact (OwAll.inS _ _ _ c z m).1
            · exact (Ow.inS _ _ _ ov z m).1
          refine k _ _ (l :: (S0 ++ S1)) [] (fun z ob nz ez => ?_) ?_ (.fr .non) (by simpa using nd) (fun z m => by simpa using m)
          · rw [upd_ne (fun e => nz (by rw [e]; simp))]; exact ez
          · refine .lst a upd_same (OwAll.append (OwAll.mono (Same.refl F) _ _ _ (fun z m => kp z (List.mem_append_left _ m)) c) ?_)
            have := OwAll.cons (S2 := []) (Ow.mono (Same.refl F) _ _ _ (fun z m => kp z (List.mem_append_right _ m)) ov) OwAll.nil
            rw [List.append_nil] at this
            exact this
    · cases e
  · cases e
def lPop : T → List T → Option (T × T)
  | .lst ts, [] => ts[ts.length - 1]?.map fun t => (.lst (ts.eraseIdx (ts.length - 1)), t)
  | .lst ts, [.fr (.int i)] => if decide (-(2 ^ 63) ≤ i) && decide (i < 2 ^ 63) then (seqIndex? i ts.length).bind fun k => ts[k]?.map fun t => (.lst (ts.eraseIdx k), t) else none
  | _, _ => none
theorem dropLast_erase {α : Type} : ∀ (xs : List α), xs.dropLast = xs.eraseIdx (xs.length - 1)
  | [] => rfl
  | [_] => rfl
  | a :: b :: r => by
    have := dropLast_erase (b :: r)
    show a :: (b :: r).dropLast = a :: (b :: r).eraseIdx r.length
    rw [this]; rfl
theorem pop_end {x : V} {l : Addr} {xs : List V} {ts : List T} {S0 : List Addr} {k : Nat} {t : T} {Q : VK} (a : F l = none) (b : H l = some (.lst xs)) (c : OwAll K F H xs ts S0) (nd : (l :: S0).Nodup) (ek : ts[k]? = some t)
    (kk : ∀ H' v S' Sr, (∀ a o, a ∉ l :: S0 → H a = some o → H' a = some o) → Ow K F H' (.ref l) (.lst (ts.eraseIdx k)) S' → Ow K F H' v t Sr → (S' ++ Sr).Nodup → (∀ a ∈ S' ++ Sr, a ∈ l :: S0) → Q v H') :
    ∃ y, xs[k]? = some y ∧ Q y (upd H l (.lst (xs.eraseIdx k))) := by
  obtain ⟨v, S1, S2, h1, h2, h3, h4⟩ := OwAll.pick c ek
  refine ⟨v, h1, ?_⟩
  have ndl := List.nodup_cons.mp nd
  have nd2 : (S1 ++ S2).Nodup := h4.nodup_iff.mp ndl.2
  have off : ∀ z ∈ S1 ++ S2, z ≠ l := fun z m e => ndl.1 (e ▸ h4.mem_iff.mpr m)
  have kp : ∀ z ∈ S1 ++ S2, F z = none ∧ upd H l (.lst (xs.eraseIdx k)) z = H z := fun z m => ⟨(OwAll.inS _ _ _ c z (h4.mem_iff.mpr m)).1, upd_ne (off z m)⟩
  refine kk _ v (l :: S2) S1 (fun z ob nz ez => ?_) (.lst a upd_same (OwAll.mono (Same.refl F) _ _ _ (fun z m => kp z (List.mem_append_right _ m)) h3)) (Ow.mono (Same.refl F) _ _ _ (fun z m => kp z (List.mem_append_left _ m)) h2) ?_ (fun z m => ?_)
  · rw [upd_ne (fun e => nz (by rw [e]; simp))]; exact ez
  · have n2 := List.nodup_append.mp nd2
    refine List.nodup_append.mpr ⟨List.nodup_cons.mpr ⟨fun m => off l (List.mem_append_right _ m) rfl, n2.2.1⟩, n2.1, fun z m w m' e => ?_⟩
    subst e
    rcases List.mem_cons.mp m with rfl | m
    · exact off _ (List.mem_append_left _ m') rfl
    · exact n2.2.2 z m' z m rfl
  · rcases List.mem_append.mp m with m | m
    · rcases List.mem_cons.mp m with rfl | m
      · simp
      · exact List.mem_cons_of_mem _ (h4.mem_iff.mpr (List.mem_append_right _ m))
    · exact List.mem_cons_of_mem _ (h4.mem_iff.mpr (List.mem_append_left _ m))
theorem MtR_or {id : String} {r r' : V → List V → Hp → VK → Prop} (h : MtR X id r) (h' : MtR X id r') : MtR X id (fun x xs H Q => r x xs H Q ∨ r' x xs H Q) := fun pins s σ H x xs v us Q I rx rs z => z.elim (h pins s σ H x xs v us Q I rx rs) (h' pins s σ H x xs v us Q I rx rs)
theorem m_pop : MtR X "list.pop" (rMut X.K lPop) := MtR_mono (MtR_or mt_pop mt_popAt) fun x vs H Q ⟨F, t, us, S, Su, t', r, s, o, ou, nd, e, k⟩ => by
  unfold lPop at e
  split at e
  · rename_i ts
    obtain ⟨t, e1, e2⟩ := Option.map_eq_some_iff.mp e
    injection e2 with e2 e3
    subst e2 e3
    cases o with
    | @lst l xs _ S0 a b c =>
      cases ou
      rw [List.append_nil] at nd k
      have hl := OwAll.length c
      obtain ⟨y, hy, hq⟩ := pop_end (x := .non) a b c nd e1 k
      refine .inl ⟨l, xs, y, rfl, rfl, b, by rw [hl]; exact hy, ?_⟩
      rw [dropLast_erase, hl]
      exact hq
  · rename_i ts i
    split at e
    · rename_i hi
      simp only [Bool.and_eq_true, decide_eq_true_eq] at hi
      obtain ⟨j, e0, e1⟩ := Option.bind_eq_some_iff.mp e
      obtain ⟨t, e4, e2⟩ := Option.map_eq_some_iff.mp e1
      injection e2 with e2 e3
      subst e2 e3
      cases o with
      | @lst l xs _ S0 a b c =>
        cases ou with
        | cons ov on =>
          cases on
          cases ov with
          | fr hd =>
            cases hd
            rw [List.append_nil, List.append_nil] at nd k
            have hl := OwAll.length c
            obtain ⟨y, hy, hq⟩ := pop_end (x := .non) a b c nd e4 k
            exact .inr ⟨l, xs, i, j, y, rfl, rfl, b, hi.1, hi.2, by rw [hl]; exact e0, hy, hq⟩
    · cases e
  · cases e

/-! ### xs[i] = e, d[k] = e -/
def putL (t u : T) (d : PyData) : Option T := match t with
  | .lst ts => u.asInt.bind fun i => (ixN ts.length i).map fun j => .lst (ts.set j (.fr d))
  | _ => none
theorem put_list (e : ∃ F t u d S t', Same F H ∧ Ow K F H v1 t S ∧ S.Nodup ∧ Rd K F H v2 u ∧ Dp K F v3 d ∧ putL t u d = some t' ∧
  ∀ H' S', (∀ a ob, a ∉ S → H a = some ob → H' a = some ob) → Ow K F H' v1 t' S' → S'.Nodup → (∀ a ∈ S', a ∈ S) → Qn H') : rSetL v1 v2 v3 H Qn := by
  obtain ⟨F, t, u, d, S, t', s, o, nd, hu, hd, e, k⟩ := e
  unfold putL at e
  split at e
  · rename_i ts
    obtain ⟨i, e1, e2⟩ := Option.bind_eq_some_iff.mp e
    obtain ⟨j, e3, e4⟩ := Option.map_eq_some_iff.mp e2
    subst e4
    cases o with
    | @lst l xs _ S0 a b c =>
      have hl := OwAll.length c
      have hj : j < ts.length := by
        unfold ixN at e3
        split at e3
        · split at e3
          · cases e3; omega
          · cases e3
        · split at e3
          · cases e3; omega
          · cases e3
      obtain ⟨w, S1, Sa, Sb, h1, rfl, h2, put⟩ := OwAll.at c (List.getElem?_eq_getElem hj)
      refine ⟨l, xs, i, j, rfl, hu.asInt e1, b, by rw [hl]; exact e3, ?_⟩
      have ndl := List.nodup_cons.mp nd
      have off : ∀ z ∈ Sa ++ (S1 ++ Sb), z ≠ l := fun z m e => ndl.1 (e ▸ m)
      refine k _ (l :: (Sa ++ ([] ++ Sb))) (fun z ob nz ez => ?_) (.lst a upd_same (put F _ v3 (.fr d) [] (Same.refl F) (fun z m => ?_) (.fr hd))) ?_ (fun z m => ?_)
      · rw [upd_ne (fun e => nz (by rw [e]; simp))]; exact ez
      · have m' : z ∈ Sa ++ (S1 ++ Sb) := by
          rcases List.mem_append.mp m with m | m
          · simp [m]
          · simp [m]
        exact ⟨(OwAll.inS _ _ _ c z m').1, upd_ne (off z m')⟩
      · refine List.nodup_cons.mpr ⟨fun m => off l ?_ rfl, ?_⟩
        · rcases List.mem_append.mp m with m | m
          · simp [m]
          · simp at m; simp [m]
        · have n1 := List.nodup_append.mp ndl.2
          have n2 := List.nodup_append.mp n1.2.1
          exact List.nodup_append.mpr ⟨n1.1, by simpa using n2.2.1, fun z m w m' e => n1.2.2 z m w (by simp at m'; simp [m']) e⟩
      · rcases List.mem_cons.mp m with rfl | m
        · simp
        · rcases List.mem_append.mp m with m | m
          · simp [m]
          · simp at m; simp [m]
  · cases e
theorem p_list : PSet X (rPut X.K putL) := PSet_mono set_list fun o i v H Q h => put_list h

def dicPut (ks : List Key) (ts : List T) (k : Key) (u : T) : List Key × List T :=
  if (ks.any fun j => decide (j = k)) = true then (ks, List.zipWith (fun j t => if j = k then u else t) ks ts) else (ks ++ [k], ts ++ [u])
theorem zip_any : ∀ {ks : List Key} {xs : List V} {k : Key}, ks.length = xs.length → ((ks.zip xs).any fun kv => decide (kv.1 = k)) = ks.any fun j => decide (j = k)
  | [], [], _, _ => rfl
  | j :: ks, x :: xs, k, h => by
    rw [List.zip_cons_cons, List.any_cons, List.any_cons, zip_any (ks := ks) (xs := xs) (by simpa using h)]
theorem zip_map : ∀ {ks : List Key} {xs : List V} {k : Key} {v : V}, ks.length = xs.length → ((ks.zip xs).map fun kv => if kv.1 = k then (kv.1, v) else kv) = ks.zip (List.zipWith (fun j x => if j = k then v else x) ks xs)
  | [], [], _, _, _ => rfl
  | j :: ks, x :: xs, k, v, h => by
    rw [List.zip_cons_cons, List.map_cons, zip_map (ks := ks) (xs := xs) (by simpa using h), List.zipWith_cons_cons, List.zip_cons_cons]
    by_cases e : j = k
    · simp [e]
    · simp [e]
theorem OwAll.repl {k : Key} {w : V} {d : PyData} (hd : Dp K F w d) : ∀ {ks : List Key} {xs : List V} {ts : List T} {S : List Addr}, OwAll K F H xs ts S → ks.length = xs.length →
    ∃ S', OwAll K F H (List.zipWith (fun j x => if j = k then w else x) ks xs) (List.zipWith (fun j t => if j = k then .fr d else t) ks ts) S' ∧ S'.Sublist S
  | [], _, _, _, .nil, _ => ⟨[], .nil, List.Sublist.refl _⟩
  | j :: ks, _, _, _, .cons (S1 := S1) (S2 := S2) a b, h => by
    obtain ⟨S', h1, h2⟩ := OwAll.repl hd (ks := ks) b (by simpa using h)
    rw [List.zipWith_cons_cons, List.zipWith_cons_cons]
    by_cases e : j = k
    · rw [if_pos e, if_pos e]
      exact ⟨[] ++ S', .cons (.fr hd) h1, (h2.trans (List.sublist_append_right S1 S2))⟩
    · rw [if_neg e, if_neg e]
      exact ⟨S1 ++ S', .cons a h1, List.Sublist.append (List.Sublist.refl _) h2⟩
def putDic (t u : T) (d : PyData) : Option T := match t with
  | .dic ks ts => u.asKey.bind fun k => if ks.length < sizeLine then some (.dic (dicPut ks ts k (.fr d)).1 (dicPut ks ts k (.fr d)).2) else none
  | _ => none
theorem p_dict (hu : X.A.units + 1 < cLine) : PSet X (rPut X.K putDic) := by
  intro pins s σ H x y w ov iv u Q I ro ri rv h
  obtain ⟨F, t, k0, d, S, t', sm, o, nd, hu', hd, e, kk⟩ := h
  unfold putDic at e
  split at e
  · rename_i ks ts
    obtain ⟨k, e1, e2⟩ := Option.bind_eq_some_iff.mp e
    split at e2
    · rename_i hl
      have e2 := Option.some.inj e2
      subst e2
      cases o with
      | @dic l _ xs _ S0 a b hz c =>
        cases ro
        have hxl := OwAll.length c
        have ek := hu'.asKey e1
        subst ek
        have ndl := List.nodup_cons.mp nd
        have off : ∀ z ∈ S0, z ≠ l := fun z m e => ndl.1 (e ▸ m)
        have hzl : (ks.zip xs).length < sizeLine := by rw [List.length_zip, hz, Nat.min_self, ← hz]; exact hl
        refine d_setItem hu I (DPut.k (v := w) b hzl) ri rv fun s' I' => ⟨_, I', ?_⟩
        have fin : ∀ (ks' : List Key) (xs' : List V) (ts' : List T) (S' : List Addr), putK (ks.zip xs) k w = ks'.zip xs' → ks'.length = xs'.length → dicPut ks ts k (.fr d) = (ks', ts') → OwAll X.K F H xs' ts' S' → S'.Nodup → (∀ a ∈ S', a ∈ S0) → Q (upd H l (.dK (putK (ks.zip xs) k w))) := fun ks' xs' ts' S' h1 h2 h3 h4 h5 h6 => by
          rw [h3] at kk
          refine kk _ (l :: S') (fun z ob nz ez => ?_) (.dic a (by rw [upd_same, h1]) h2 (OwAll.mono (Same.refl F) _ _ _ (fun z m => ⟨(OwAll.inS _ _ _ c z (h6 z m)).1, upd_ne (off z (h6 z m))⟩) h4)) ?_ (fun z m => ?_)
          · rw [upd_ne (fun e => nz (by rw [e]; simp))]; exact ez
          · exact List.nodup_cons.mpr ⟨fun m => off l (h6 l m) rfl, h5⟩
          · rcases List.mem_cons.mp m with rfl | m
            · simp
            · exact List.mem_cons_of_mem _ (h6 z m)
        by_cases ha : (ks.any fun j => decide (j = k)) = true
        · obtain ⟨S', h1, h2⟩ := OwAll.repl (k := k) hd (ks := ks) c hz
          refine fin ks _ _ S' ?_ (by rw [List.length_zipWith, hz, Nat.min_self]) (by unfold dicPut; rw [if_pos ha]) h1 (h2.nodup ndl.2) fun z m => h2.subset m
          unfold putK
          rw [zip_any hz, if_pos ha, zip_map hz]
        · refine fin (ks ++ [k]) (xs ++ [w]) (ts ++ [.fr d]) (S0 ++ ([] ++ [])) ?_ (by simp [hz]) (by unfold dicPut; rw [if_neg ha]) (OwAll.append c (.cons (.fr hd) .nil)) (by simpa using ndl.2) (fun z m => by simpa using m)
          unfold putK
          rw [zip_any hz, if_neg ha, List.zip_append hz]
          rfl
    · cases e2
  · cases e
theorem PSet_or {r r' : TSet} (h : PSet X r) (h' : PSet X r') : PSet X (fun o i v H Q => r o i v H Q ∨ r' o i v H Q) := fun pins s σ H o i v ov iv u Q I ro ri rv z => z.elim (h pins s σ H o i v ov iv u Q I ro ri rv) (h' pins s σ H o i v ov iv u Q I ro ri rv)
def putAny (t u : T) (d : PyData) : Option T := match t with
  | .lst ts => putL (.lst ts) u d
  | .dic ks ts => putDic (.dic ks ts) u d
  | _ => none
theorem p_any (hu : X.A.units + 1 < cLine) : PSet X (rPut X.K putAny) := PSet_mono (PSet_or p_list (p_dict hu)) fun o i v H Q ⟨F, t, u, d, S, t', s, ow, nd, hu', hd, e, kk⟩ => by
  unfold putAny at e
  split at e
  · exact .inl ⟨F, _, u, d, S, t', s, ow, nd, hu', hd, e, kk⟩
  · exact .inr ⟨F, _, u, d, S, t', s, ow, nd, hu', hd, e, kk⟩
  · cases e
/-- {} -/
def eDic : M R := fun ρ => some (.val (.dic [] []), ρ)
theorem e_dic {pos : Pos} : PE X (.Dict [] [] pos) (tE X.K true eDic) := PE_mono pe_dnewK fun σ H Q ⟨P, F, A, ρ, r, ρ', G, e, k⟩ => by
  injection (show some (R.val (.dic [] []), ρ) = some (r, ρ') from e) with e
  injection e with e1 e2
  subst e1 e2
  intro p hp
  have g := Grow.new (o := .dK []) G.same hp
  refine k _ A _ _ (G.grow g) (g.ext (q := true)) ⟨[p], .dic (S := []) (G.same.free hp) upd_same rfl .nil, by simp, fun a m i m' => ?_, fun a m => ?_⟩
  · have : a = p := by simpa using m
    subst this
    obtain ⟨_, u, e⟩ := G.noF i a m'
    rw [hp] at e; cases e
  · have : a = p := by simpa using m
    subst this
    exact .inl hp

/-! ### += -/
def opAddI (t u : T) : Option T := match t, u with
  | .fr (.int i), .fr (.int j) => some (.fr (.int (i + j)))
  | .fr (.str x), .fr (.str y) => if x.length + y.length ≤ sizeLine then some (.fr (.str (x ++ y))) else none
  | _, _ => none
theorem ip_str : PIp X .Add (fun x y H Q => ∃ i j, x = .str i ∧ y = .str j ∧ i.length + j.length ≤ sizeLine ∧ Q (.str (i ++ j)) H) := fun pins s σ H x y v u Q I rx ry h => augR iop_add_str I rx ry h
theorem PIp_or {op : Operator} {r r' : TIp} (h : PIp X op r) (h' : PIp X op r') : PIp X op (fun x y H Q => r x y H Q ∨ r' x y H Q) := fun pins s σ H x y v u Q I rx ry z => z.elim (h pins s σ H x y v u Q I rx ry) (h' pins s σ H x y v u Q I rx ry)
theorem i_add : PIp X .Add (rT2 X.K opAddI) := PIp_mono (PIp_or ip_add ip_str) fun x y H Q ⟨F, t, u, z, s, hx, hy, e, k⟩ => by
  unfold opAddI at e
  split at e
  · have e := Option.some.inj e
    subst e
    exact .inl ⟨_, _, hx.int, hy.int, Got.int s k⟩
  · split at e
    · rename_i hl
      have e := Option.some.inj e
      subst e
      exact .inr ⟨_, _, hx.str, hy.str, hl, Got.str s k⟩
    · cases e
  · cases e
theorem i_sub : PIp X .Sub (rT2 X.K opSub) := PIp_mono ip_sub fun x y H Q h => by
  obtain ⟨i, j, a, b, _, c⟩ := iI_ok (CP := fun _ _ => True) (fun _ _ _ => trivial) x y H Q h
  exact ⟨i, j, a, b, c⟩

/-! ### [::-1] -/
def opRev (t : T) : Option T := t.asList.map fun ds => .lst (ds.reverse.map T.fr)
theorem DpAll.rev : ∀ {vs : List V} {ds : List PyData}, DpAll K F vs ds → DpAll K F vs.reverse ds.reverse
  | _, _, .nil => .nil
  | _, _, .cons a t => by
    rw [List.reverse_cons, List.reverse_cons]
    exact DpAll.append (DpAll.rev t) (.cons a .nil)
theorem e_rev {e : Expr} {g : M R} {k : Nat} {p1 p2 p3 pos : Pos} (he : PE X e (tE X.K q g)) : PE X (.Subscript e (.Slice none none (some (.UnaryOp .USub (.Constant (.int 1) k p1) p2)) p3) pos) (tE X.K q (un opRev g)) :=
  PE_mono (pe_revL he) fun σ H Q h => un_tr (r := fun x H1 Q => ∃ a xs, x = .ref a ∧ SqL X.K H1 a xs ∧ ∀ p, H1 p = none → Q (.ref p) (upd H1 p (.lst xs.reverse))) (fun x H Q ⟨F, t, z, s, hx, e, k⟩ => by
    obtain ⟨ds, e1, e2⟩ := Option.map_eq_some_iff.mp e
    subst e2
    obtain ⟨a, xs, ex, ha, da⟩ := hx.asList s e1
    exact ⟨a, xs, ex, ha, Got.lst s k (DpAll.rev da)⟩) σ H Q h

/-! ### chains -/
def asBl (t : T) : Option Bool := t.asBool
def chainM (qb qc : Bool) (f f' : T → T → Option T) (ga gb gc : M R) : M R := fun ρ => (ga ρ).bind fun x => (gb x.2).bind fun y =>
  if x.1.waits qb = true then (look y.2 x.1).bind fun t => (look y.2 y.1).bind fun u => (f t u).bind fun r => r.asBool.bind fun k =>
    if k then (gc y.2).bind fun z => if y.1.waits qc = true then (look z.2 y.1).bind fun u => (look z.2 z.1).bind fun w => (f' u w).map fun r => (.val r, z.2) else none
    else some (.val (.fr (.bool false)), y.2)
  else none
theorem chain_tr {qc : Bool} {f f' : T → T → Option T} {ga gb gc : M R} : ∀ σ H Q, tE K (qa && (qb && qc)) (chainM qb qc f f' ga gb gc) σ H Q → tChain (rT2 K f) (rT2 K f') (tE K qa ga) (tE K qb gb) (tE K qc gc) σ H Q := fun σ H Q ⟨P, F, A, ρ, r0, ρ', G, e, k⟩ => by
  obtain ⟨⟨x, ρ1⟩, e1, e2⟩ := Option.bind_eq_some_iff.mp (show ((ga ρ).bind _) = some (r0, ρ') from e)
  obtain ⟨⟨y, ρ2⟩, e3, e4⟩ := Option.bind_eq_some_iff.mp e2
  have e4 : (if x.waits qb = true then (look ρ2 x).bind fun t => (look ρ2 y).bind fun u => (f t u).bind fun r => r.asBool.bind fun k =>
    if k then (gc ρ2).bind fun z => if y.waits qc = true then (look z.2 y).bind fun u => (look z.2 z.1).bind fun w => (f' u w).map fun r => (R.val r, z.2) else none
    else some (.val (.fr (.bool false)), ρ2) else none) = some (r0, ρ') := e4
  split at e4
  · rename_i w
    obtain ⟨t, f1, e5⟩ := Option.bind_eq_some_iff.mp e4
    obtain ⟨u, f2, e6⟩ := Option.bind_eq_some_iff.mp e5
    obtain ⟨r, f3, e7⟩ := Option.bind_eq_some_iff.mp e6
    obtain ⟨b, f4, e8⟩ := Option.bind_eq_some_iff.mp e7
    refine ⟨P, F, A, ρ, x, ρ1, G, e1, fun F1 A1 H1 v1 G1 E1 R1 => ?_⟩
    refine ⟨P, F1, A1, ρ1, y, ρ2, G1, e3, fun F2 A2 H2 v2 G2 E2 R2' => ?_⟩
    refine ⟨F2, t, u, r, G2.same, (R1.wait E2 w).look G2 f1, R2'.look G2 f2, f3, fun F3 H3 v S g o nd n => ?_⟩
    have hv := (show Rd K F3 H3 v r from ⟨S, o⟩).asBool f4
    refine ⟨b, hv, ?_⟩
    cases b with
    | false =>
      simp only [Bool.false_eq_true, if_false] at e8 ⊢
      injection e8 with e8
      injection e8 with e9 e10
      subst e9 e10
      exact k F3 A2 H3 _ (G2.grow g) (((E1.trans E2).trans (g.ext (q := true))).le (by simp; intro a b c; simp [a, b])) (Rx.val_fr (.bl false))
    | true =>
      simp only [if_true] at e8 ⊢
      obtain ⟨⟨z, ρ3⟩, e9, e10⟩ := Option.bind_eq_some_iff.mp e8
      have e10 : (if y.waits qc = true then (look ρ3 y).bind fun u => (look ρ3 z).bind fun w => (f' u w).map fun r => (R.val r, ρ3) else none) = some (r0, ρ') := e10
      split at e10
      · rename_i w2
        obtain ⟨u', f5, e11⟩ := Option.bind_eq_some_iff.mp e10
        obtain ⟨w', f6, e12⟩ := Option.bind_eq_some_iff.mp e11
        obtain ⟨r', f7, e13⟩ := Option.map_eq_some_iff.mp e12
        injection e13 with e14 e15
        subst e14 e15
        refine ⟨P, F3, A2, ρ2, z, ρ3, G2.grow g, e9, fun F4 A4 H4 v4 G4 E4 R4 => ?_⟩
        have R2g : Rx K (Nw A1 H1) F3 A2 σ H3 v2 y := R2'.wait (g.ext (A := A2) (q := true)) (by cases y with | val _ => rfl | bor _ _ => rfl)
        refine ⟨F4, u', w', r', G4.same, (R2g.wait E4 w2).look G4 f5, R4.look G4 f6, f7, fun F5 H5 v' S' g' o' nd' n' => ?_⟩
        have EE := ((E1.trans E2).trans (g.ext (A := A2) (q := true))).trans E4
        exact k F5 A4 H5 v' (G4.grow g') ((EE.trans (g'.ext (q := true))).le (by simp; intro a b c; simp [a, b, c])) ((G4.newRx o' nd' n').le fun a m => EE.nw' m)
      · cases e10
  · cases e4
theorem e_chain {a b c : Expr} {op op' : CmpOp} {qc : Bool} {f f' : T → T → Option T} {ga gb gc : M R} (ho : OpR X (compareOp op) (rT2 X.K f)) (ho' : OpR X (compareOp op') (rT2 X.K f')) (ha : PE X a (tE X.K qa ga)) (hb : PE X b (tE X.K qb gb)) (hc : PE X c (tE X.K qc gc))
    (hm : lastMarks [op, op'] [b, c] = false := by with_unfolding_all rfl) : PE X (.Compare a [op, op'] [b, c] pos) (tE X.K (qa && (qb && qc)) (chainM qb qc f f' ga gb gc)) := PE_mono (pe_chain ho ho' ha hb hc hm) chain_tr
theorem t_chain {a b c : Expr} {op op' : CmpOp} {qc : Bool} {f f' : T → T → Option T} {ga gb gc : M R} (ho : OpR X (compareOp op) (rT2 X.K f)) (ho' : OpR X (compareOp op') (rT2 X.K f')) (ha : PE X a (tE X.K qa ga)) (hb : PE X b (tE X.K qb gb)) (hc : PE X c (tE X.K qc gc))
    (hm : lastMarks [op, op'] [b, c] = false := by with_unfolding_all rfl) : PT X (.Compare a [op, op'] [b, c] pos) (tT X.K (qa && (qb && qc)) (cOf (chainM qb qc f f' ga gb gc))) := PT_mono (pt_chain ho ho' ha hb hc hm) fun σ H Q ⟨P, F, A, ρ, b, ρ', G, e, k⟩ => chain_tr σ H _ (cOf_tr G e k)

/-! ### o[i] op= e on lists -/
theorem get_list : PGet X (fun x y H Q => ∃ p xs i v, x = .ref p ∧ y = .int i ∧ SqL X.K H p xs ∧ atI xs i = some v ∧ Q v H) := by
  intro pins s σ H x y v u Q I rx ry h
  obtain ⟨p, xs, i, z, rfl, rfl, hq, he, q⟩ := h
  cases rx
  obtain ⟨t, rfl⟩ := ry
  obtain ⟨its, r, pl, hz⟩ := I.list hq
  obtain ⟨j, h1, h2, h3, h4, h5⟩ := atI_get he
  obtain ⟨w, ew, rw'⟩ := r.get h2
  have hl := r.length
  have hn := line63
  have fin : EP X pins σ Q w s := ⟨z, H, I, rw', q⟩
  by_cases h0 : 0 ≤ i
  · have hj : i.toNat = j := by
      rw [seqIndex_of h0 h5] at h1
      exact Option.some.inj h1
    exact wpAny_getItem_list pl.isList h0 (by omega) (by rw [hj]; simpa using ew) fin
  · have hj : (i + (its.toArray.size : Int)).toNat = j := by
      rw [seqIndex_neg (by omega) h4] at h1
      rw [List.size_toArray, ← hl]
      exact Option.some.inj h1
    exact wpAny_getItem_list_neg pl.isList (by omega) (by rw [List.size_toArray] <;> omega) (by omega) (by rw [hj]; simpa using ew) fin
/-- what stands at an own list's place -/
def itemL (t u : T) : Option PyData := match t with
  | .lst ts => u.asInt.bind fun i => (ixN ts.length i).bind fun j => match ts[j]? with
    | some (.fr d) => some d
    | _ => none
  | _ => none
def sAugS (qb qe : Bool) (f : T → T → Option T) (ga gb ge : M R) : M Fl := fun ρ => (ga ρ).bind fun x => (gb x.2).bind fun y => (look y.2 x.1).bind fun t => (look y.2 y.1).bind fun u => (itemL t u).bind fun d => (ge y.2).bind fun z =>
  match x.1 with
  | .bor i p => if (R.bor i p).waits qb && ((R.bor i p).waits qe && y.1.waits qe) then (look z.2 z.1).bind fun w => (f (.fr d) w).bind fun r => match r with
    | .fr c => (look z.2 y.1).bind fun u => z.2[i]?.bind fun s => s.tree?.bind fun t0 => (t0.get p).bind fun t => (putL t u c).map fun t' => (.nx, z.2.set i (s.with (t0.put p t')))
    | _ => none else none
  | .val _ => none

/-! ### max(xs, default=d) -/
theorem alike_ints {ns : List Int} : PySem.W.AlikeAll (ns.map PyData.int) := ⟨fun x hx y hy => by
  obtain ⟨i, _, rfl⟩ := List.mem_map.mp hx
  obtain ⟨j, _, rfl⟩ := List.mem_map.mp hy
  simp [PySem.W.alike], fun x hx => by
  obtain ⟨i, _, rfl⟩ := List.mem_map.mp hx
  exact fun z => nomatch z⟩
theorem depth_ints : ∀ ns : List Int, PyData.depthAll (ns.map PyData.int) = 0
  | [] => rfl
  | n :: ns => by
    show max (PyData.depth (.int n)) (PyData.depthAll (ns.map PyData.int)) = 0
    rw [depth_ints ns]; rfl
def rMaxD (K : PySem.W.Frag) : List V → List V → Hp → VK → Prop := fun vs zs H Q => ∃ (a : Addr) (ns : List Int) (z : V), vs = [V.ref a] ∧ zs = [z] ∧ L2.Dp K H (.ref a) (.list (ns.map PyData.int)) ∧ Q (match ns with | [] => z | n :: r => .int (r.foldl max n)) H
theorem cr_maxD (hc : X.calm = true) (hu : X.A.units + 64 < cLine) : CallRK X (.builtin "max") [Str.ofString "default"] (rMaxD X.K) := by
  intro pins s σ H vs zs us ws Q I r r2 h
  obtain ⟨a, ns, z, rfl, rfl, hd, q⟩ := h
  obtain ⟨u, rfl, ru⟩ := r.one
  obtain ⟨w, rfl, rw'⟩ := r2.one
  have ru0 : u = Value.ref a := ru
  subst ru0
  obtain ⟨as, rd⟩ := L2.Dp.reads I (.list (ns.map PyData.int)) (.ref a) _ hd ru
  cases rd with
  | @list _ o its n _ as' e1 e2 e3 ra =>
    have hl : s.heap.IsList a its := ⟨_, e1, e2, _, e3⟩
    refine PySem.W.max_list_default (I.ok.hd hc) hl ra alike_ints (by rw [depth_ints]; omega) (fun hx h' tk hk => ?_) (fun y ys i v h' tk bs hx hv hr hk => ?_)
    · cases ns with
      | cons n r => cases hx
      | nil => exact ⟨z, H, I.kept hk, rw', q⟩
    · cases ns with
      | nil => cases hx
      | cons n r =>
        injection hx with hx1 hx2
        subst hx1 hx2
        rw [PySem.W.maxD_ints] at hr
        cases hr with
        | int i t => exact ⟨.int _, H, I.kept hk, ⟨_, rfl⟩, q⟩

/-- a part of a slot's tree is changed -/
theorem put_back {F3 H3 : Hp} {A3 : Nat → List Addr} {i : Nat} {p : Path} {s : Sl} {t0 t : T} {v0 v : V} (G3 : Good K P F3 A3 ρ3 σ H3) (es : ρ3[i]? = some s) (et : s.tree? = some t0) (egt : t0.get p = some t) (ev : σ[i]? = some (some v0)) (va : VAt H3 v0 p v) :
    ∃ S1, Ow K F3 H3 v t S1 ∧ S1.Nodup ∧ ∀ H4 t' S', (∀ a ob, a ∉ S1 → H3 a = some ob → H4 a = some ob) → Ow K F3 H4 v t' S' → S'.Nodup → (∀ a ∈ S', a ∈ S1) →
      ∃ A4, Good K P F3 A4 (ρ3.set i (s.with (t0.put p t'))) σ H4 ∧ ∀ {q : Bool} {F H : Hp} {A : Nat → List Addr}, Ext q F A H F3 A3 H3 → Ext false F A H F3 A4 H4 := by
  obtain ⟨v1', ev1, o, back⟩ := G3.slotTree es et
  rw [ev] at ev1
  injection ev1 with ev1
  injection ev1 with ev1
  subst ev1
  obtain ⟨z, S1, hw', ow, nd1, sub, put⟩ := Ow.zoom (p := p) o (G3.nd i) egt
  have := va.inj hw'
  subst this
  refine ⟨S1, ow, nd1, fun H4 t' S' keep o' nd' src => ?_⟩
  have keepA : ∀ a ∈ A3 i, a ∉ S1 → F3 a = none ∧ H4 a = H3 a := fun a m n => by
    obtain ⟨f, u', e⟩ := G3.noF i a m
    exact ⟨f, (keep a u' n e).trans e.symm⟩
  obtain ⟨S2, o2, nd2, src2⟩ := put F3 H4 t' S' (Same.refl F3) keepA o' nd' (fun a m m' => src a m)
  have where2 : ∀ a ∈ S2, a ∈ A3 i := fun a m => by
    rcases src2 a m with z | z
    · exact sub a (src a z)
    · exact z.1
  have subH : Same F3 H4 := fun b ob eb => keep b ob (fun m => by rw [(G3.noF i b (sub b m)).1] at eb; cases eb) (G3.same b ob eb)
  refine ⟨updA A3 i S2, ?_, fun {q F H A} E => ⟨E.sF, fun a n => ?_, fun z => by cases z⟩⟩
  · refine G3.upd (List.getElem?_eq_some_iff.mp es).1 (Same.refl F3) subH (fun j hj a m => ?_) rfl (fun _ _ => rfl) (back _ _ _ _ o2) nd2 fun a m j hj m' => hj (G3.dj j i a m' (where2 a m))
    obtain ⟨f, u', e⟩ := G3.noF j a m
    exact ⟨f, (keep a u' (fun z => hj (G3.dj j i a m (sub a z))) e).trans e.symm⟩
  · obtain ⟨h2, f2, n2⟩ := E.frm a n
    obtain ⟨⟨ob, eb⟩, _⟩ := of_not_nw n
    refine ⟨?_, f2, fun j => ?_⟩
    · rw [eb] at h2 ⊢
      exact keep a ob (fun m => n2 i (sub a m)) h2
    · by_cases hj : j = i
      · subst hj
        rw [updA_same]
        exact fun m => n2 j (where2 a m)
      · rw [updA_ne hj]
        exact n2 j
theorem itemL_of {t u : T} {d : PyData} {x y : V} (hx : Rd K F H x t) (hy : Rd K F H y u) (e : itemL t u = some d) : ∃ p xs i v, x = .ref p ∧ y = .int i ∧ SqL K H p xs ∧ atI xs i = some v ∧ Dp K F v d := by
  unfold itemL at e
  split at e
  · obtain ⟨i, e1, e2⟩ := Option.bind_eq_some_iff.mp e
    obtain ⟨j, e3, e4⟩ := Option.bind_eq_some_iff.mp e2
    split at e4
    · rename_i d' ed
      have e4 := Option.some.inj e4
      subst e4
      obtain ⟨S, o⟩ := hx
      cases o with
      | lst a b c =>
        obtain ⟨v, S1, Sa, Sb, h1, _, h2, _⟩ := OwAll.at c ed
        refine ⟨_, _, i, v, rfl, hy.asInt e1, .of b, ?_, Rd.fr ⟨_, h2⟩⟩
        unfold atI
        rw [OwAll.length c, e3]
        exact h1
    · cases e4
  · cases e
theorem s_augS {a b e : Expr} {op : Operator} {tpos : Pos} {f : T → T → Option T} {ga gb ge : M R} (ha : PE X a (tE X.K qa ga)) (hb : PE X b (tE X.K qb gb)) (he : PE X e (tE X.K qe ge)) (hp : PIp X op (rT2 X.K f))
    (hs : ∀ ov iv new, augStore b ov iv new = (do holding [new, ov, iv] (setItem ov iv new); release [new, ov, iv] []; pure .next) := by intros; rfl) : PS X (.AugAssign (.Subscript a b tpos) op e pos) (tS X.K false (sAugS qb qe f ga gb ge)) :=
  PS_mono (ps_augS ha hb get_list he hp p_list hs) fun D σ H ⟨P, F, A, ρ, fl, ρ', G, e, k⟩ => by
    obtain ⟨⟨x, ρ1⟩, e1, e2⟩ := Option.bind_eq_some_iff.mp (show ((ga ρ).bind _) = some (fl, ρ') from e)
    obtain ⟨⟨y, ρ2⟩, e3, e4⟩ := Option.bind_eq_some_iff.mp e2
    obtain ⟨t, e5, e6⟩ := Option.bind_eq_some_iff.mp e4
    obtain ⟨u, e7, e8⟩ := Option.bind_eq_some_iff.mp e6
    obtain ⟨d, e9, e10⟩ := Option.bind_eq_some_iff.mp e8
    obtain ⟨⟨z, ρ3⟩, e11, e12⟩ := Option.bind_eq_some_iff.mp e10
    cases x with
    | val _ => cases e12
    | bor i p =>
      have e12 : (if ((R.bor i p).waits qb && ((R.bor i p).waits qe && y.waits qe)) = true then (look ρ3 z).bind fun w => (f (.fr d) w).bind fun r => match r with
        | .fr c => (look ρ3 y).bind fun u => ρ3[i]?.bind fun s => s.tree?.bind fun t0 => (t0.get p).bind fun t => (putL t u c).map fun t' => (Fl.nx, ρ3.set i (s.with (t0.put p t')))
        | _ => none else none) = some (fl, ρ') := e12
      split at e12
      · rename_i w
        rw [Bool.and_eq_true, Bool.and_eq_true] at w
        obtain ⟨wt, f1, f2⟩ := Option.bind_eq_some_iff.mp e12
        obtain ⟨r, f3, f4⟩ := Option.bind_eq_some_iff.mp f2
        cases r with
        | fr c =>
          have f4 : ((look ρ3 y).bind fun u => ρ3[i]?.bind fun s => s.tree?.bind fun t0 => (t0.get p).bind fun t => (putL t u c).map fun t' => (Fl.nx, ρ3.set i (s.with (t0.put p t')))) = some (fl, ρ') := f4
          obtain ⟨u2, f5, f6⟩ := Option.bind_eq_some_iff.mp f4
          obtain ⟨s, es, f8⟩ := Option.bind_eq_some_iff.mp f6
          obtain ⟨t0, et, f9⟩ := Option.bind_eq_some_iff.mp f8
          obtain ⟨t2, egt, f10⟩ := Option.bind_eq_some_iff.mp f9
          obtain ⟨t', ef, f11⟩ := Option.map_eq_some_iff.mp f10
          injection f11 with f12 f13
          subst f12 f13
          refine ⟨P, F, A, ρ, _, ρ1, G, e1, fun F1 A1 H1 v1 G1 E1 R1 => ?_⟩
          refine ⟨P, F1, A1, ρ1, y, ρ2, G1, e3, fun F2 A2 H2 v2 G2 E2 R2 => ?_⟩
          have R1' := R1.wait E2 w.1
          obtain ⟨pp, xs, ii, v, h1, h2, h3, h4, h5⟩ := itemL_of (R1'.look G2 e5) (R2.look G2 e7) e9
          refine ⟨pp, xs, ii, v, h1, h2, h3, h4, ?_⟩
          refine ⟨P, F2, A2, ρ2, z, ρ3, G2, e11, fun F3 A3 H3 v3 G3 E3 R3 => ?_⟩
          have R1'' := R1'.wait E3 w.2.1
          have R2' := R2.wait E3 w.2.2
          refine ⟨F3, .fr d, wt, .fr c, G3.same, ⟨[], .fr (Dp.mono E3.sF _ _ h5)⟩, R3.look G3 f1, f3, fun F4 H4 v4 S g o nd n => ?_⟩
          have G4 := G3.grow g
          obtain ⟨v0, ev, va⟩ := R1''.wait (g.ext (A := A3) (q := true)) rfl
          obtain ⟨S1, ow, nd1, fin⟩ := put_back G4 es et egt ev va
          refine ⟨F4, t2, u2, c, S1, t', G4.same, ow, nd1, ?_, Rd.fr ⟨S, o⟩, ef, fun H5 S' keep o' nd' src => ?_⟩
          · exact (R2'.look G3 f5).grow g
          · obtain ⟨A4, G5, E5⟩ := fin H5 t' S' keep o' nd' src
            exact k F4 A4 σ H5 G5 (E5 (((E1.trans E2).trans E3).trans (g.ext (A := A3) (q := true))))
        | lst _ => cases f4
        | tup _ => cases f4
        | dic _ _ => cases f4
        | scr _ => cases f4
      · cases e12

/-- max(a, default=b) -/
def maxM (qb : Bool) (ga gb : M R) : M R := fun ρ => (ga ρ).bind fun x => (gb x.2).bind fun y => if x.1.waits qb = true then (look y.2 x.1).bind fun t => (look y.2 y.1).bind fun u => t.asLst.bind fun ds => (intsD ds).bind fun ns => match ns, u with
  | [], .fr d => some (.val (.fr d), y.2)
  | n :: r, _ => some (.val (.fr (.int (r.foldl max n))), y.2)
  | _, _ => none else none
theorem e_maxD {x : Str} {p kp : Pos} {a b : Expr} {ga gb : M R} (hc : X.calm = true) (hu : X.A.units + 64 < cLine) (hg : Gl X x) (hm : X.mg x = none) (hv : bootBuiltins x = some (.builtin "max")) (ha : PE X a (tE X.K qa ga)) (hb : PE X b (tE X.K qb gb)) (hn : x ≠ "__name__" := by decide) (hdb : (x == ("__debug__" : Str)) = false := by decide)
    (hs : starEach [a] X.env = (false, eval a X.env) :: starEach [] X.env := by rfl)
    (he : backTo pos (starEach [a] X.env) = (false, eval a X.env) :: backTo pos (starEach [] X.env) := by rfl) (hpl : (backTo pos (starEach [a] X.env)).any (·.1) = false := by rfl)
    (hall : (backToKw pos (keywordEach [⟨some (Str.ofString "default"), b, kp⟩] X.env)).all (·.1.isSome) = true := by rfl) (hnone : (backToKw pos (keywordEach [⟨some (Str.ofString "default"), b, kp⟩] X.env)).any (·.1.isNone) = false := by rfl)
    (hks : (backToKw pos (keywordEach [⟨some (Str.ofString "default"), b, kp⟩] X.env)).filterMap (·.1) = [Str.ofString "default"] := by rfl) :
    PE X (.Call (.Name x p) [a] [⟨some (Str.ofString "default"), b, kp⟩] pos) (tE X.K (qa && qb) (maxM qb ga gb)) :=
  PE_mono (pe_callBK (cr_maxD hc hu) hg hm hv (pa_cons ha pa_nil hs) (pk_cons hb pk_nil) hn hdb he hpl hall hnone hks) fun σ H Q ⟨P, F, A, ρ, r, ρ', G, e, k⟩ => by
    obtain ⟨⟨x, ρ1⟩, e1, e2⟩ := Option.bind_eq_some_iff.mp (show ((ga ρ).bind _) = some (r, ρ') from e)
    obtain ⟨⟨y, ρ2⟩, e3, e4⟩ := Option.bind_eq_some_iff.mp e2
    have e4 : (if x.waits qb = true then (look ρ2 x).bind fun t => (look ρ2 y).bind fun u => t.asLst.bind fun ds => (intsD ds).bind fun ns => match ns, u with
      | [], .fr d => some (R.val (.fr d), ρ2)
      | n :: r, _ => some (.val (.fr (.int (r.foldl max n))), ρ2)
      | _, _ => none else none) = some (r, ρ') := e4
    split at e4
    · rename_i w
      obtain ⟨t, f1, e5⟩ := Option.bind_eq_some_iff.mp e4
      obtain ⟨u, f2, e6⟩ := Option.bind_eq_some_iff.mp e5
      obtain ⟨ds, f3, e7⟩ := Option.bind_eq_some_iff.mp e6
      obtain ⟨ns, f4, e8⟩ := Option.bind_eq_some_iff.mp e7
      refine ⟨P, F, A, ρ, x, ρ1, G, e1, fun F1 A1 H1 v1 G1 E1 R1 => ?_⟩
      refine ⟨P, F1, A1, ρ1, y, ρ2, G1, e3, fun F2 A2 H2 v2 G2 E2 R2 => ?_⟩
      obtain ⟨l, xs, ex, hl, hd⟩ := ((R1.wait E2 w).look G2 f1).asLst G2.same f3
      subst ex
      have hdd : L2.Dp X.K H2 (.ref l) (.list ds) := .lst (.of hl) (DpAll.to _ _ (DpAll.mono G2.same _ _ hd))
      rw [ints_of f4] at hdd
      refine ⟨l, ns, v2, rfl, rfl, hdd, ?_⟩
      cases ns with
      | nil =>
        cases u with
        | fr d =>
          injection e8 with e8
          injection e8 with e9 e10
          subst e9 e10
          exact k F2 A2 H2 v2 G2 (E1.trans E2) (Rx.val_fr (R2.look G2 f2).fr)
        | lst _ => cases e8
        | tup _ => cases e8
        | dic _ _ => cases e8
        | scr _ => cases e8
      | cons n r =>
        injection e8 with e8
        injection e8 with e9 e10
        subst e9 e10
        exact k F2 A2 H2 _ G2 (E1.trans E2) (Rx.val_fr (.int _))
    · cases e4

/-! ### isinstance -/
def T.ty : T → String
  | .fr .none => "NoneType"
  | .fr (.bool _) => "bool"
  | .fr (.int _) => "int"
  | .fr (.str _) => "str"
  | .fr (.list _) => "list"
  | .fr (.tuple _) => "tuple"
  | .fr (.dict _) => "dict"
  | .lst _ => "list"
  | .tup _ => "tuple"
  | .dic _ _ => "dict"
  | .scr _ => "list"
theorem Rd.ty {v : V} {t : T} (s : Same F H) (h : Rd K F H v t) : TyX K H v (.type t.ty) := by
  have sqL : ∀ {a xs}, SqL K H a xs → TyX K H (.ref a) (.type "list") := fun {a xs} z => by
    rcases z with (z | ⟨o, z⟩) | z
    · exact .base (.lst z)
    · exact .base (.frz z)
    · obtain ⟨o, its, n, h1, h2, _⟩ := z
      exact .kList h1 h2
  have sqT : ∀ {a xs}, SqT K H a xs → TyX K H (.ref a) (.type "tuple") := fun {a xs} z => by
    rcases z with (z | ⟨o, z⟩) | z
    · exact .base (.tup z)
    · exact .fTuple z
    · obtain ⟨o, its, n, h1, h2, _⟩ := z
      exact .kTuple h1 h2
  obtain ⟨S, o⟩ := h
  cases o with
  | fr d =>
    cases d with
    | non => exact .base .non
    | bl b => exact .base (.bl b)
    | int i => exact .base (.int i)
    | str x => exact .base (.str x)
    | lst a b => exact sqL (.of (s _ _ a))
    | tup a b => exact sqT (SqT.same s a)
  | lst a b c => exact .base (.lst b)
  | tup a b c => exact .base (.tup b)
  | dic a b c d => exact .base (.dK b)
  | scr a b => exact sqL (s.seq a)

/-- is a thing of type a one of type b -/
def isiB (a b : String) : Option Bool := if a = b then some true else match b with
  | "int" => some (a == "bool")
  | "bool" => some false
  | "str" => some false
  | "list" => some false
  | "tuple" => some false
  | "dict" => some false
  | _ => none
def tyNames : List String := ["NoneType", "bool", "int", "str", "list", "tuple", "dict"]
theorem isiB_ok : (tyNames.all fun a => ["int", "bool", "str", "list", "tuple", "dict"].all fun b => kitB a b == isiB a b) = true := by decide +kernel
theorem isiB_kit {a b : String} {r : Bool} (ha : a ∈ tyNames) (h : isiB a b = some r) (hb : b ∈ ["int", "bool", "str", "list", "tuple", "dict"]) : PySem.W.kitOne K (.type a) (.type b) = some r := by
  have := List.all_eq_true.mp (List.all_eq_true.mp isiB_ok a ha) b hb
  exact kit_ty ((beq_iff_eq.mp this).trans h)
theorem T.ty_mem : ∀ t : T, t.ty ∈ tyNames
  | .fr .none => by simp [T.ty, tyNames]
  | .fr (.bool _) => by simp [T.ty, tyNames]
  | .fr (.int _) => by simp [T.ty, tyNames]
  | .fr (.str _) => by simp [T.ty, tyNames]
  | .fr (.list _) => by simp [T.ty, tyNames]
  | .fr (.tuple _) => by simp [T.ty, tyNames]
  | .fr (.dict _) => by simp [T.ty, tyNames]
  | .lst _ => by simp [T.ty, tyNames]
  | .tup _ => by simp [T.ty, tyNames]
  | .dic _ _ => by simp [T.ty, tyNames]
  | .scr _ => by simp [T.ty, tyNames]
def opIsi (b : String) (t : T) : Option T := (isiB t.ty b).map fun r => .fr (.bool r)
theorem e_isi {x y : Str} {p py : Pos} {a : Expr} {ga : M R} {ty : String} (ha : PE X a (tE X.K qa ga)) (hy : PE X (.Name y py) (tC (.ty ty))) (hg : Gl X x) (hm : X.mg x = none) (hv : bootBuiltins x = some (.builtin "isinstance"))
    (hty : ty ∈ ["int", "bool", "str", "list", "tuple", "dict"]) (hn : x ≠ "__name__" := by decide) (hdb : (x == ("__debug__" : Str)) = false := by decide)
    (hs : starEach [a, .Name y py] X.env = (false, eval a X.env) :: starEach [.Name y py] X.env := by rfl) (hs2 : starEach [.Name y py] X.env = (false, eval (.Name y py) X.env) :: starEach [] X.env := by rfl)
    (hpl : (backTo pos (starEach [.Name y py] X.env)).any (·.1) = false := by rfl) : PE X (.Call (.Name x p) [a, .Name y py] [] pos) (tE X.K qa (un (opIsi ty) ga)) :=
  PE_mono (pe_callB call_isi hg hm hv (pa_cons ha (pa_cons hy pa_nil hs2) hs) hn hdb hs hpl) fun σ H Q h =>
    un_tr (r := fun x H1 Q => rIsi X.K [x, .ty ty] H1 Q) (fun x H Q ⟨F, t, z, s, hx, e, k⟩ => by
      obtain ⟨b, e1, e2⟩ := Option.map_eq_some_iff.mp e
      subst e2
      exact ⟨x, .ty ty, _, _, b, rfl, .ty ty, hx.ty s, isiB_kit t.ty_mem e1 hty, Got.bool s k⟩) σ H Q h

/-! ### comprehensions of two clauses -/
def lc2In (vs1 : List Nat) (m : GM) (c : M Bool) (e : M R) : List PyData → M (List PyData) := lcLoop vs1 m c e
def lc2Loop (vs vs1 : List Nat) (m : GM) (c : M Bool) (src1 : Src) (m1 : GM) (c1 : M Bool) (e : M R) : List PyData → M (List PyData)
  | [] => fun ρ => some ([], ρ)
  | d :: ds => fun ρ => (m d (wipeM vs ρ)).bind fun ρ1 => (c ρ1).bind fun x => if x.1 then (src1 x.2).bind fun y => (lcLoop vs1 m1 c1 e y.1.1 (hideM y.1.2 y.2)).bind fun z => (unhide y.1.2 y.2 (wipeM vs1 z.2)).bind fun ρ3 =>
      (lc2Loop vs vs1 m c src1 m1 c1 e ds ρ3).map fun w => (z.1 ++ w.1, w.2)
    else lc2Loop vs vs1 m c src1 m1 c1 e ds x.2
def lc2M (src : Src) (vs vs1 : List Nat) (m : GM) (c : M Bool) (src1 : Src) (m1 : GM) (c1 : M Bool) (e : M R) : M R := fun ρ => (src ρ).bind fun x => if (vs.all fun v => plainSl (hideM x.1.2 x.2)[v]?) then
  (lc2Loop vs vs1 m c src1 m1 c1 e x.1.1 (hideM x.1.2 x.2)).bind fun z => if z.1.length ≤ sizeLine then (unhide x.1.2 x.2 (giveBack vs (hideM x.1.2 x.2) (wipeM vs z.2))).map fun ρ3 => (.val (.lst (z.1.map T.fr)), ρ3) else none else none

theorem wipe_wipe {vs vs1 : List Nat} {σ σ2 : L2.St} (h : ∀ j ∈ vs1, j ∈ vs) (e : wipe σ2 vs = wipe σ vs) : wipe (wipe σ2 vs1) vs = wipe σ vs := by
  rw [← e]
  refine List.ext_getElem? fun j => ?_
  by_cases hj : j ∈ vs
  · rw [wipe_in hj, wipe_in hj, wipe_length]
  · rw [wipe_out hj, wipe_out hj, wipe_out fun z => hj (h j z)]
theorem lcLoop_len {vs : List Nat} {m : GM} {c : M Bool} {e : M R} : ∀ {ds : List PyData} {ρ : MS} {z : List PyData × MS}, lcLoop vs m c e ds ρ = some z → z.1.length ≤ ds.length
  | [], ρ, z, h => by
    have h := Option.some.inj (show some (([] : List PyData), ρ) = some z from h)
    subst h
    exact Nat.le_refl _
  | d :: ds, ρ, z, h => by
    obtain ⟨ρ1, _, h1⟩ := Option.bind_eq_some_iff.mp (show ((m d (wipeM vs ρ)).bind _) = some z from h)
    obtain ⟨x, _, h2⟩ := Option.bind_eq_some_iff.mp h1
    split at h2
    · obtain ⟨y, _, h3⟩ := Option.bind_eq_some_iff.mp h2
      obtain ⟨w, h4, h5⟩ := Option.map_eq_some_iff.mp h3
      subst h5
      have := lcLoop_len h4
      simp only [List.length_cons]
      omega
    · have := lcLoop_len h2
      simp only [List.length_cons]
      omega
theorem tgt_wipe {vs ts : List Nat} {σ σ4 : L2.St} (hts : ∀ j ∈ ts, j ∈ vs) (l4 : σ4.length = (wipe σ vs).length) (n4 : ∀ j, j ∉ ts → σ4[j]? = (wipe σ vs)[j]?) : wipe σ4 vs = wipe σ vs := by
  refine List.ext_getElem? fun j => ?_
  by_cases hj : j ∈ vs
  · rw [wipe_in hj, wipe_in hj]
    have : σ4.length = σ.length := by rw [l4, wipe_length]
    rw [this]
  · rw [wipe_out hj, n4 j (fun z => hj (hts j z)), wipe_out hj]
theorem lc2_tr {src src1 : Src} {vs vs1 ts ts1 : List Nat} {m m1 : GM} {c c1 : M Bool} {el : M R} {qi qt qi1 qt1 qe : Bool} (hts : ∀ j ∈ ts, j ∈ vs) (hts1 : ∀ j ∈ ts1, j ∈ vs1) (hvs : ∀ j ∈ vs1, j ∈ vs) :
    ∀ σ H Q, tE K (qi && (qt && (qi1 && (qt1 && qe)))) (lc2M src vs vs1 m c src1 m1 c1 el) σ H Q → tLc2 (tI K qi src) (tG K ts m) (tT K qt c) (tI K qi1 src1) (tG K ts1 m1) (tT K qt1 c1) (tE K qe el) vs vs1 σ H Q := fun σ H Q ⟨P, F, A, ρ, r, ρ', G, e, k⟩ => by
  obtain ⟨⟨⟨ds, hd⟩, ρ1⟩, e1, e2⟩ := Option.bind_eq_some_iff.mp (show ((src ρ).bind _) = some (r, ρ') from e)
  have e2 : (if (vs.all fun v => plainSl (hideM hd ρ1)[v]?) = true then (lc2Loop vs vs1 m c src1 m1 c1 el ds (hideM hd ρ1)).bind fun z => if z.1.length ≤ sizeLine then (unhide hd ρ1 (giveBack vs (hideM hd ρ1) (wipeM vs z.2))).map fun ρ3 => (R.val (.lst (z.1.map T.fr)), ρ3) else none else none) = some (r, ρ') := e2
  split at e2
  · rename_i hpl
    have hplain : ∀ v ∈ vs, plainSl (hideM hd ρ1)[v]? = true := List.all_eq_true.mp hpl
    obtain ⟨⟨out, ρe⟩, e3, e4⟩ := Option.bind_eq_some_iff.mp e2
    have e4 : (if out.length ≤ sizeLine then (unhide hd ρ1 (giveBack vs (hideM hd ρ1) (wipeM vs ρe))).map fun ρ3 => (R.val (.lst (out.map T.fr)), ρ3) else none) = some (r, ρ') := e4
    split at e4
    · rename_i hline
      obtain ⟨ρ3, e5, e6⟩ := Option.map_eq_some_iff.mp e4
      injection e6 with e7 e8
      subst e7 e8
      refine ⟨P, F, A, ρ, (ds, hd), ρ1, G, e1, fun P' F1 A1 H1 J N0 G1 E1 wk bk hN _ D hD => ?_⟩
      have fD : F1 D = none := G1.same.free hD
      have gD := Grow.new (o := .lst []) G1.same hD
      have aD : ∀ i, D ∉ A1 i := fun i m => by
        obtain ⟨_, ob, eb⟩ := G1.noF i D m
        rw [hD] at eb; cases eb
      refine ⟨fun i l H2 => l = ds.length - i ∧ i ≤ ds.length ∧ ∃ F2 A2 ρ2 acc done rest, Good K P' F2 A2 (wipeM vs ρ2) (wipe σ vs) H2 ∧ Ext false F1 A1 H1 F2 A2 H2 ∧ ((qt && (qi1 && (qt1 && qe))) = true → ∀ b o, H1 b = some o → H2 b = some o) ∧
        H2 D = some (.lst acc) ∧ F2 D = none ∧ (∀ i, D ∉ A2 i) ∧ DpAll K F2 acc done ∧ lc2Loop vs vs1 m c src1 m1 c1 el (ds.drop i) ρ2 = some (rest, ρe) ∧ done ++ rest = out,
        ⟨_, rfl, Nat.zero_le _, F1, wipeA vs A1, hideM hd ρ1, [], [], out, (G1.grow gD).wiped vs rfl, ?_, fun _ b o eb => gD.sH b o eb, upd_same, fD, fun i m => aD i (wipeA_sub m), .nil, e3, rfl⟩, ?_⟩
      · exact ((Ext.refl (q := true)).trans ((gD.ext (q := true)).shrink fun i a m => wipeA_sub m)).le (by simp)
      rintro i l H2 ⟨rfl, hi', F2, A2, ρ2, acc, done, rest, G2, E2, Q2, hacc, fD2, aD2, dacc, el2, eout⟩
      have st : ∀ a, ¬ N0 a → H2 a = H1 a := fun a z => (E2.frm a fun w => z (hN a w)).1
      by_cases hlt : i < ds.length
      · rw [List.drop_eq_getElem_cons hlt] at el2
        obtain ⟨ρ4, e9, el3⟩ := Option.bind_eq_some_iff.mp (show ((m ds[i] (wipeM vs ρ2)).bind _) = some (rest, ρe) from el2)
        obtain ⟨⟨b, ρ5⟩, e10, el4⟩ := Option.bind_eq_some_iff.mp el3
        refine .inr ⟨wk.goes i H2 hlt st, fun H' => ∃ F2 A2 ρ2 acc done rest, Good K P' F2 A2 (wipeM vs ρ2) (wipe σ vs) H' ∧ Ext false F1 A1 H1 F2 A2 H' ∧ ((qt && (qi1 && (qt1 && qe))) = true → ∀ b o, H1 b = some o → H' b = some o) ∧
          H' D = some (.lst acc) ∧ F2 D = none ∧ (∀ i, D ∉ A2 i) ∧ DpAll K F2 acc done ∧ lc2Loop vs vs1 m c src1 m1 c1 el (ds.drop (i + 1)) ρ2 = some (rest, ρe) ∧ done ++ rest = out, fun H' z => ⟨_, by omega, rfl, hlt, z⟩, fun y H' hy => ?_⟩
        obtain ⟨F3, gr, hd3⟩ := wk.yields i _ F2 H2 y H' (List.getElem?_eq_getElem hlt) st E2.sF G2.same hy
        refine ⟨P', F3, A2, wipeM vs ρ2, ds[i], ρ4, G2.grow gr, hd3, e9, fun A4 σ4 G4 s4 l4 n4 => ?_⟩
        have hw4 : wipe σ4 vs = wipe σ vs := tgt_wipe hts l4 n4
        refine ⟨hw4, ?_⟩
        have keepD : F3 D = none ∧ H' D = some (.lst acc) := ⟨(gr.old D _ hacc).trans fD2, gr.sH D _ hacc⟩
        have aD4 : ∀ i, D ∉ A4 i := fun i m => aD2 i (s4 i D m)
        have E4 : Ext false F1 A1 H1 F3 A4 H' := ((E2.trans (gr.ext (q := true))).shrink s4).le (by simp)
        refine ⟨P', F3, A4, ρ4, b, ρ5, G4, e10, fun F5 A5 H5 G5 E5 => ?_⟩
        have nD4 : ¬ Nw A4 H' D := not_nw keepD.2 aD4
        obtain ⟨h5, f5, n5⟩ := E5.frm D nD4
        have hD5 : H5 D = some (.lst acc) := h5.trans keepD.2
        have fD5 : F5 D = none := f5.trans keepD.1
        have Q5 : (qt && (qi1 && (qt1 && qe))) = true → ∀ b o, H1 b = some o → H5 b = some o := fun z b o eb => E5.qt (Bool.and_eq_true_iff.mp z).1 b o (gr.sH b o (Q2 z b o eb))
        cases b with
        | false =>
          refine iteF ?_
          exact ⟨F5, wipeA vs A5, ρ5, acc, done, rest, G5.wiped vs hw4, ((E4.trans E5).shrink fun i a m => wipeA_sub m).le (by simp), Q5, hD5, fD5, fun i m => n5 i (wipeA_sub m), DpAll.mono (gr.sF.trans E5.sF) _ _ dacc, el4, eout⟩
        | true =>
          refine iteT ?_
          obtain ⟨⟨⟨ds1, hd1⟩, ρ6⟩, g1, el5⟩ := Option.bind_eq_some_iff.mp (show ((src1 ρ5).bind _) = some (rest, ρe) from el4)
          obtain ⟨⟨out1, ρ7⟩, g2, el6⟩ := Option.bind_eq_some_iff.mp (show ((lcLoop vs1 m1 c1 el ds1 (hideM hd1 ρ6)).bind fun z => (unhide hd1 ρ6 (wipeM vs1 z.2)).bind fun ρ3 => (lc2Loop vs vs1 m c src1 m1 c1 el (ds.drop (i + 1)) ρ3).map fun w => (z.1 ++ w.1, w.2)) = some (rest, ρe) from el5)
          obtain ⟨ρ8, g3, el7⟩ := Option.bind_eq_some_iff.mp el6
          obtain ⟨⟨rest', ρ9⟩, g4, g5⟩ := Option.map_eq_some_iff.mp el7
          injection g5 with g6 g7
          have g6 : out1 ++ rest' = rest := g6
          have g7 : ρ9 = ρe := g7
          subst g7
          refine ⟨P', F5, A5, ρ5, (ds1, hd1), ρ6, G5, g1, fun P2 F6 A6 H6 J1 N1 G6 E6 wk1 bk1 hN1 hN1' => ?_⟩
          have nD5 : ¬ Nw A5 H5 D := not_nw hD5 n5
          obtain ⟨h6, f6, n6⟩ := E6.frm D nD5
          have hD6 : H6 D = some (.lst acc) := h6.trans hD5
          have fD6 : F6 D = none := f6.trans fD5
          have N1D : N1 D := hN1' D nD5 fD6
          have EE : Ext false F1 A1 H1 F6 A6 H6 := ((E4.trans E5).trans E6).le (by simp)
          have Q6 : (qt && (qi1 && (qt1 && qe))) = true → ∀ b o, H1 b = some o → H6 b = some o := fun z b o eb => E6.qt (Bool.and_eq_true_iff.mp (Bool.and_eq_true_iff.mp z).2).1 b o (Q5 z b o eb)
          -- the inner loop
          refine ⟨fun j l H2 => l = ds1.length - j ∧ j ≤ ds1.length ∧ ∃ F7 A7 ρ7' acc1 done1 rest1, Good K P2 F7 A7 (wipeM vs1 ρ7') (wipe σ4 vs1) H2 ∧ Same F6 F7 ∧ (∀ a, ¬ Nw A6 H6 a → (a ≠ D → H2 a = H6 a) ∧ F7 a = F6 a ∧ ∀ i, a ∉ A7 i) ∧ ((qt && (qi1 && (qt1 && qe))) = true → ∀ b o, H1 b = some o → H2 b = some o) ∧
            H2 D = some (.lst acc1) ∧ DpAll K F7 acc1 done1 ∧ lcLoop vs1 m1 c1 el (ds1.drop j) ρ7' = some (rest1, ρ7) ∧ done1 ++ rest1 = done ++ out1,
            ⟨_, rfl, Nat.zero_le _, F6, wipeA vs1 A6, hideM hd1 ρ6, acc, done, out1, G6.wiped vs1 rfl, Same.refl F6, fun a n => ⟨fun _ => rfl, rfl, fun i m => (of_not_nw n).2 i (wipeA_sub m)⟩, Q6, hD6, DpAll.mono ((gr.sF.trans E5.sF).trans E6.sF) _ _ dacc, g2, rfl⟩, ?_⟩
          rintro j l H7 ⟨rfl, hj', F7, A7, ρ10, acc1, done1, rest1, G7, sF7, frm7, Q7, hD7, dacc1, el8, eout1⟩
          have nD6 : ¬ Nw A6 H6 D := not_nw hD6 n6
          have fD7 : F7 D = none := (frm7 D nD6).2.1.trans fD6
          have aD7 : ∀ i, D ∉ A7 i := (frm7 D nD6).2.2
          have E7 : Ext false F1 A1 H1 F7 A7 H7 := ⟨EE.sF.trans sF7, fun a n => by
            obtain ⟨h, f, z⟩ := EE.frm a n
            have n' := EE.nw n
            obtain ⟨h', f', z'⟩ := frm7 a n'
            have : a ≠ D := fun w => by
              subst w
              exact n (.inl hD)
            exact ⟨(h' this).trans h, f'.trans f, z'⟩, fun z => by cases z⟩
          have st1 : ∀ a, ¬ N1 a → H7 a = H6 a := fun a z => (frm7 a fun w => z (hN1 a w)).1 fun w => z (w ▸ N1D)
          by_cases hlt1 : j < ds1.length
          · rw [List.drop_eq_getElem_cons hlt1] at el8
            obtain ⟨ρ11, g9, el9⟩ := Option.bind_eq_some_iff.mp (show ((m1 ds1[j] (wipeM vs1 ρ10)).bind _) = some (rest1, ρ7) from el8)
            obtain ⟨⟨b1, ρ12⟩, g10, el10⟩ := Option.bind_eq_some_iff.mp el9
            refine .inr ⟨wk1.goes j H7 hlt1 st1, fun H2 => ∃ F7 A7 ρ7' acc1 done1 rest1, Good K P2 F7 A7 (wipeM vs1 ρ7') (wipe σ4 vs1) H2 ∧ Same F6 F7 ∧ (∀ a, ¬ Nw A6 H6 a → (a ≠ D → H2 a = H6 a) ∧ F7 a = F6 a ∧ ∀ i, a ∉ A7 i) ∧ ((qt && (qi1 && (qt1 && qe))) = true → ∀ b o, H1 b = some o → H2 b = some o) ∧
              H2 D = some (.lst acc1) ∧ DpAll K F7 acc1 done1 ∧ lcLoop vs1 m1 c1 el (ds1.drop (j + 1)) ρ7' = some (rest1, ρ7) ∧ done1 ++ rest1 = done ++ out1, fun H' z => ⟨_, by omega, rfl, hlt1, z⟩, fun y1 H8 hy1 => ?_⟩
            obtain ⟨F8, gr8, hd8⟩ := wk1.yields j _ F7 H7 y1 H8 (List.getElem?_eq_getElem hlt1) st1 sF7 G7.same hy1
            refine ⟨P2, F8, A7, wipeM vs1 ρ10, ds1[j], ρ11, G7.grow gr8, hd8, g9, fun A9 σ9 G9 s9 l9 n9 => ?_⟩
            have hw9 : wipe σ9 vs1 = wipe σ4 vs1 := tgt_wipe hts1 l9 n9
            refine ⟨hw9, ?_⟩
            have hD8 : H8 D = some (.lst acc1) := gr8.sH D _ hD7
            have fD8 : F8 D = none := (gr8.old D _ hD7).trans fD7
            have aD9 : ∀ i, D ∉ A9 i := fun i m => aD7 i (s9 i D m)
            have frm9 : ∀ a, ¬ Nw A6 H6 a → (a ≠ D → H8 a = H6 a) ∧ F8 a = F6 a ∧ ∀ i, a ∉ A9 i := fun a n => by
              obtain ⟨h, f, z⟩ := frm7 a n
              by_cases ha : a = D
              · subst ha
                exact ⟨fun w => absurd rfl w, fD8.trans fD6.symm, aD9⟩
              · have hh := h ha
                obtain ⟨⟨ob, eb⟩, _⟩ := of_not_nw n
                exact ⟨fun _ => (gr8.sH a ob (hh.trans eb)).trans eb.symm, (gr8.old a ob (hh.trans eb)).trans f, fun i m => z i (s9 i a m)⟩
            refine ⟨P2, F8, A9, ρ11, b1, ρ12, G9, g10, fun F10 A10 H10 G10 E10 => ?_⟩
            obtain ⟨h10, f10, n10⟩ := E10.frm D (not_nw hD8 aD9)
            have hD10 : H10 D = some (.lst acc1) := h10.trans hD8
            have fD10 : F10 D = none := f10.trans fD8
            have Q10 : (qt && (qi1 && (qt1 && qe))) = true → ∀ b o, H1 b = some o → H10 b = some o := fun z b o eb => E10.qt (Bool.and_eq_true_iff.mp (Bool.and_eq_true_iff.mp (Bool.and_eq_true_iff.mp z).2).2).1 b o (gr8.sH b o (Q7 z b o eb))
            have nn : ∀ {a}, ¬ Nw A6 H6 a → a ≠ D → ¬ Nw A9 H8 a := fun {a} n ha => by
              obtain ⟨h, f, z⟩ := frm9 a n
              obtain ⟨⟨ob, eb⟩, _⟩ := of_not_nw n
              exact not_nw ((h ha).trans eb) z
            have frm10 : ∀ a, ¬ Nw A6 H6 a → (a ≠ D → H10 a = H6 a) ∧ F10 a = F6 a ∧ ∀ i, a ∉ A10 i := fun a n => by
              by_cases ha : a = D
              · subst ha
                exact ⟨fun w => absurd rfl w, fD10.trans fD6.symm, n10⟩
              · obtain ⟨h, f, z⟩ := frm9 a n
                obtain ⟨h', f', z'⟩ := E10.frm a (nn n ha)
                exact ⟨fun w => h'.trans (h w), f'.trans f, z'⟩
            cases b1 with
            | false =>
              refine iteF ?_
              exact ⟨F10, wipeA vs1 A10, ρ12, acc1, done1, rest1, G10.wiped vs1 hw9, (sF7.trans gr8.sF).trans E10.sF, fun a n => ⟨(frm10 a n).1, (frm10 a n).2.1, fun i m => (frm10 a n).2.2 i (wipeA_sub m)⟩, Q10, hD10, DpAll.mono (gr8.sF.trans E10.sF) _ _ dacc1, el10, eout1⟩
            | true =>
              refine iteT ?_
              obtain ⟨⟨z, ρ13⟩, g11, el11⟩ := Option.bind_eq_some_iff.mp (show ((fz el ρ12).bind fun y => (lcLoop vs1 m1 c1 el (ds1.drop (j + 1)) y.2).map fun z => (y.1 :: z.1, z.2)) = some (rest1, ρ7) from el10)
              obtain ⟨⟨rest2, ρ14⟩, g12, g13⟩ := Option.map_eq_some_iff.mp el11
              injection g13 with g14 g15
              subst g14 g15
              refine fz_tr (q := qe) (te := tE K qe el) (fun _ _ _ h => h) G10 g11 fun F11 A11 H11 w G11 E11 hdz => ?_
              obtain ⟨h11, f11, n11⟩ := E11.frm D (not_nw hD10 n10)
              have hD11 : H11 D = some (.lst acc1) := h11.trans hD10
              have fD11 : F11 D = none := f11.trans fD10
              have hal := DpAll.length dacc1
              have hlen : acc1.length < sizeLine := by
                have h1 := congrArg List.length eout1
                have h2 := congrArg List.length eout
                rw [← g6] at h2
                simp only [List.length_append, List.length_cons] at h1 h2
                omega
              refine ⟨acc1, hD11, hlen, F11, wipeA vs1 A11, ρ13, acc1 ++ [w], done1 ++ [z], rest2, ?_, ((sF7.trans gr8.sF).trans E10.sF).trans E11.sF, fun a n => ?_, fun hz b o eb => ?_, upd_same, DpAll.append (DpAll.mono ((gr8.sF.trans E10.sF).trans E11.sF) _ _ dacc1) (.cons hdz .nil), g12, by rw [← eout1]; simp⟩
              · refine Good.wiped vs1 (σ2 := σ9) ⟨fun b o eb => ?_, G11.len, fun j s es => (G11.slot j s es).keep (Same.refl F11) fun a m => ⟨(G11.noF j a m).1, upd_ne fun z => n11 j (z ▸ m)⟩, G11.out, G11.nd, G11.dj, G11.ln⟩ hw9
                rw [upd_ne (fun z => by rw [z, fD11] at eb; cases eb)]
                exact G11.same b o eb
              · by_cases ha : a = D
                · subst ha
                  exact ⟨fun w => absurd rfl w, fD11.trans fD6.symm, fun i m => n11 i (wipeA_sub m)⟩
                · obtain ⟨h, f, zz⟩ := frm10 a n
                  have n10' : ¬ Nw A10 H10 a := E10.nw (nn n ha)
                  obtain ⟨h', f', z'⟩ := E11.frm a n10'
                  exact ⟨fun w => by rw [upd_ne ha]; exact h'.trans (h w), f'.trans f, fun i m => z' i (wipeA_sub m)⟩
              · rw [upd_ne (fun z => by rw [z, hD] at eb; cases eb)]
                exact E11.qt (Bool.and_eq_true_iff.mp (Bool.and_eq_true_iff.mp (Bool.and_eq_true_iff.mp hz).2).2).2 b o (Q10 hz b o eb)
          · have hi2 : j = ds1.length := by omega
            subst hi2
            rw [List.drop_length] at el8
            injection (show some (([] : List PyData), ρ10) = some (rest1, ρ7) from el8) with el9
            injection el9 with el10 el11
            subst el10 el11
            rw [List.append_nil] at eout1
            subst eout1
            refine .inl ⟨wk1.stops H7 st1, ?_⟩
            obtain ⟨A8, G8, s8⟩ := bk1 F7 A7 _ _ H7 ρ8 G7 sF7 (fun a na n => by
              obtain ⟨h, f, z⟩ := frm7 a n
              exact ⟨h fun w => nD5 (w ▸ na), f, z⟩) g3
            have aD8 : ∀ i, D ∉ A8 i := fun i m => (s8 i D m).elim (aD7 i) fun z => nD5 z.1
            refine ⟨F7, wipeA vs A8, ρ8, acc1, _, rest', G8.wiped vs (wipe_wipe hvs hw4), ⟨E7.sF, fun a n => ?_, fun z => by cases z⟩, Q7, hD7, fD7, fun i m => aD8 i (wipeA_sub m), dacc1, g4, by rw [List.append_assoc, g6]; exact eout⟩
            obtain ⟨h, f, z⟩ := E7.frm a n
            exact ⟨h, f, fun i m => (s8 i a (wipeA_sub m)).elim (z i) fun w => ((E4.trans E5).nw n) w.1⟩
      · have hi2 : i = ds.length := by omega
        subst hi2
        rw [List.drop_length] at el2
        injection (show some (([] : List PyData), ρ2) = some (rest, ρe) from el2) with el2
        injection el2 with el3 el4
        subst el3 el4
        rw [List.append_nil] at eout
        subst eout
        refine .inl ⟨wk.stops H2 st, ?_⟩
        have G3 := Good.unwiped vs G1 hplain G2 E2.sF
        obtain ⟨A3, G4, s3⟩ := bk F2 A2 _ σ H2 ρ3 G3 E2.sF (fun a _ => E2.frm a) e5
        have E3 : Ext (qi && (qt && (qi1 && (qt1 && qe)))) F A H F2 A3 H2 := ⟨E1.sF.trans E2.sF, fun a n => by
          obtain ⟨h2, f2, n2⟩ := (E1.trans E2).frm a n
          exact ⟨h2, f2, fun j m => (s3 j a m).elim (n2 j) fun z => n z.1⟩, fun hz b o eb => by
          rw [Bool.and_eq_true] at hz
          exact Q2 hz.2 b o (E1.qt hz.1 b o eb)⟩
        refine k F2 A3 H2 (.ref D) G4 E3 ⟨[D], .lst (S := []) fD2 hacc (OwAll.frs dacc), by simp, fun a m j mj => ?_, fun a m => ?_⟩
        · have : a = D := by simpa using m
          subst this
          rcases s3 j a mj with z | z
          · exact aD2 j z
          · exact z.2 (.inl hD)
        · have : a = D := by simpa using m
          subst this
          exact E1.nw' (.inl hD)
    · cases e4
  · cases e2

section
variable {elt tg iter tg1 iter1 : Expr} {ifs ifs1 : List Expr} {scope : Scope} {own : List (Str × Nat)} {src src1 : Src} {vs1 ts ts1 : List Nat} {m m1 : GM} {c c1 : M Bool} {el : M R} {qi1 qt1 : Bool}
theorem e_lc2 (hc : X.calm = true) (hN : X.N.Nodup) (hi : PI X tg iter (tI X.K qi src)) (ok : BlkOk X.N X.env.scope scope own)
    (hg : ∀ (s : Shared) (H : Hp) (C : Addr) (cl : List (Str × Addr)) (fp : List Addr), PG (X.blk s H scope (compEnvC scope cl C X.env) fp) tg (tG X.K ts m))
    (ht : ∀ (s : Shared) (H : Hp) (C : Addr) (cl : List (Str × Addr)) (fp : List Addr), PTs (X.blk s H scope (compEnvC scope cl C X.env) fp) ifs (tT X.K qt c))
    (hi1 : ∀ (s : Shared) (H : Hp) (C : Addr) (cl : List (Str × Addr)) (fp : List Addr), PI (X.blk s H scope (compEnvC scope cl C X.env) fp) tg1 iter1 (tI X.K qi1 src1))
    (hg1 : ∀ (s : Shared) (H : Hp) (C : Addr) (cl : List (Str × Addr)) (fp : List Addr), PG (X.blk s H scope (compEnvC scope cl C X.env) fp) tg1 (tG X.K ts1 m1))
    (ht1 : ∀ (s : Shared) (H : Hp) (C : Addr) (cl : List (Str × Addr)) (fp : List Addr), PTs (X.blk s H scope (compEnvC scope cl C X.env) fp) ifs1 (tT X.K qt1 c1))
    (he : ∀ (s : Shared) (H : Hp) (C : Addr) (cl : List (Str × Addr)) (fp : List Addr), PE (X.blk s H scope (compEnvC scope cl C X.env) fp) elt (tE X.K qe el))
    (hts : ∀ j ∈ ts, j ∈ own.map (·.2)) (hts1 : ∀ j ∈ ts1, j ∈ vs1) (hvs : ∀ j ∈ vs1, j ∈ own.map (·.2)) (hs : ∀ x, foldedSetIterable iter X.env x = pure x := by intro _; rfl) (hs1 : ∀ env x, foldedSetIterable iter1 env x = pure x := by intro _ _; rfl) :
    PE X (.ListComp elt [⟨tg, iter, ifs, 0⟩, ⟨tg1, iter1, ifs1, 0⟩] scope pos) (tE X.K (qi && (qt && (qi1 && (qt1 && qe)))) (lc2M src (own.map (·.2)) vs1 m c src1 m1 c1 el)) :=
  PE_mono (pe_lc2 hc hN hi ok hvs hg ht hi1 hg1 ht1 he hs hs1) (lc2_tr hts hts1 hvs)
theorem s_setLc2 {i : Nat} {y : Str} {py spos : Pos} (hc : X.calm = true) (hN : X.N.Nodup) (hy : X.N[i]? = some y) (hyl : X.env.scope.names.lookup y = some .local) (hi : PI X tg iter (tI X.K qi src)) (ok : BlkOk X.N X.env.scope scope own)
    (hg : ∀ (s : Shared) (H : Hp) (C : Addr) (cl : List (Str × Addr)) (fp : List Addr), PG (X.blk s H scope (compEnvC scope cl C X.env) fp) tg (tG X.K ts m))
    (ht : ∀ (s : Shared) (H : Hp) (C : Addr) (cl : List (Str × Addr)) (fp : List Addr), PTs (X.blk s H scope (compEnvC scope cl C X.env) fp) ifs (tT X.K qt c))
    (hi1 : ∀ (s : Shared) (H : Hp) (C : Addr) (cl : List (Str × Addr)) (fp : List Addr), PI (X.blk s H scope (compEnvC scope cl C X.env) fp) tg1 iter1 (tI X.K qi1 src1))
    (hg1 : ∀ (s : Shared) (H : Hp) (C : Addr) (cl : List (Str × Addr)) (fp : List Addr), PG (X.blk s H scope (compEnvC scope cl C X.env) fp) tg1 (tG X.K ts1 m1))
    (ht1 : ∀ (s : Shared) (H : Hp) (C : Addr) (cl : List (Str × Addr)) (fp : List Addr), PTs (X.blk s H scope (compEnvC scope cl C X.env) fp) ifs1 (tT X.K qt1 c1))
    (he : ∀ (s : Shared) (H : Hp) (C : Addr) (cl : List (Str × Addr)) (fp : List Addr), PE (X.blk s H scope (compEnvC scope cl C X.env) fp) elt (tE X.K qe el))
    (hts : ∀ j ∈ ts, j ∈ own.map (·.2)) (hts1 : ∀ j ∈ ts1, j ∈ vs1) (hvs : ∀ j ∈ vs1, j ∈ own.map (·.2))
    (hsw : swapsWith (.ListComp elt [⟨tg, iter, ifs, 0⟩, ⟨tg1, iter1, ifs1, 0⟩] scope pos) (some (.Name y py)) spos.line X.env = pure true) (hs : ∀ x, foldedSetIterable iter X.env x = pure x := by intro _; rfl) (hs1 : ∀ env x, foldedSetIterable iter1 env x = pure x := by intro _ _; rfl) :
    PS X (.Assign [.Name y py] (.ListComp elt [⟨tg, iter, ifs, 0⟩, ⟨tg1, iter1, ifs1, 0⟩] scope pos) spos) (tS X.K (qi && (qt && (qi1 && (qt1 && qe)))) (sSet i (lc2M src (own.map (·.2)) vs1 m c src1 m1 c1 el))) :=
  PS_mono (ps_setLc2 hc hN hy hyl hsw hi ok hvs hg ht hi1 hg1 ht1 he hs hs1) fun D σ H h => lc2_tr hts hts1 hvs σ H _ (set_tr D σ H h)
end
end
end DL

/-! DL11: defs with what is known of them; frozen arguments of changing methods; names of built-ins. -/
namespace DL
open PySem PySem.Spec PyProof.Rows L2
theorem bt_abs : bootBuiltins "abs" = some (.builtin "abs") := by decide +kernel
theorem bt_max : bootBuiltins "max" = some (.builtin "max") := by decide +kernel
theorem bt_min : bootBuiltins "min" = some (.builtin "min") := by decide +kernel
theorem bt_sum : bootBuiltins "sum" = some (.builtin "sum") := by decide +kernel
theorem bt_sorted : bootBuiltins "sorted" = some (.builtin "sorted") := by decide +kernel
theorem bt_all : bootBuiltins "all" = some (.builtin "all") := by decide +kernel
theorem bt_any : bootBuiltins "any" = some (.builtin "any") := by decide +kernel
theorem bt_len : bootBuiltins "len" = some (.builtin "len") := by decide +kernel
theorem bt_isinstance : bootBuiltins "isinstance" = some (.builtin "isinstance") := by decide +kernel
theorem bt_int : bootBuiltins "int" = some (.type "int") := by decide +kernel
theorem bt_bool : bootBuiltins "bool" = some (.type "bool") := by decide +kernel
theorem bt_str : bootBuiltins "str" = some (.type "str") := by decide +kernel
theorem bt_list : bootBuiltins "list" = some (.type "list") := by decide +kernel
theorem bt_tuple : bootBuiltins "tuple" = some (.type "tuple") := by decide +kernel
theorem bt_dict : bootBuiltins "dict" = some (.type "dict") := by decide +kernel
section
variable {K : PySem.W.Frag} {P : Gh} {F F' F1 F2 H H' H1 H2 : Hp} {A A' A1 A2 : Nat → List Addr} {ρ ρ' ρ1 ρ2 : MS} {σ σ' : L2.St} {q qa qb qf : Bool} {X : Cx} {pos : Pos}
/-- a frozen argument in a list of kept ones -/
def bConsF (g : M R) (gs : M (List T)) : M (List T) := fun ρ => (fz g ρ).bind fun x => (gs x.2).map fun y => (.fr x.1 :: y.1, y.2)
theorem b_consF {e : Expr} {es : List Expr} {g : M R} {gs : M (List T)} (ha : PE X e (tE X.K qa g)) (hb : PA X es (tB X.K qb gs)) (hs : starEach (e :: es) X.env = (false, eval e X.env) :: starEach es X.env := by rfl) :
    PA X (e :: es) (tB X.K (qa && qb) (bConsF g gs)) := PA_mono (pa_cons ha hb hs) fun σ H Q ⟨P, F, A, ρ, ds, ρ', G, e, k⟩ => by
  obtain ⟨⟨d, ρ1⟩, e1, e2⟩ := Option.bind_eq_some_iff.mp (show ((fz g ρ).bind _) = some (ds, ρ') from e)
  obtain ⟨⟨ts, ρ2⟩, e3, e4⟩ := Option.map_eq_some_iff.mp e2
  injection e4 with e5 e6
  subst e5 e6
  refine fz_tr (te := tE X.K qa g) (fun _ _ _ h => h) G e1 fun F1 A1 H1 v G1 E1 hd => ?_
  refine ⟨P, F1, A1, ρ1, ts, ρ2, G1, e3, fun F2 A2 H2 vs S2 G2 E2 o2 nd2 d2 n2 => ?_⟩
  exact k F2 A2 H2 (v :: vs) ([] ++ S2) G2 (E1.trans E2) (.cons (.fr (Dp.mono E2.sF _ _ hd)) o2) nd2 d2 (fun a m => E1.nw' (n2 a m))
variable {x : Str} {p : Pos} {e : Expr} {es : List Expr} {gs : M (List PyData)} {gl : M (List PyData × R × List PyData)} {ps : List Str} {k : Nat} {G : Fn}
structure OkF (P : Program) (w : World) (K : PySem.W.Frag) (mg : Str → Option Value) (base : Heap) (x : Str) (ps : List Str) (k : Nat) (sp : Sp) : Prop where
  ex : ∃ f fd, FnOk P w K mg base CX0 k f fd ps sp ∧ mg x = some (.ref f) ∧ PySem.W.keepIn K (.ref f) = true ∧ Binds K fd ps []
structure Df (K : PySem.W.Frag) (mg : Str → Option Value) (x : Str) (st : Stmt) (ps : List Str) : Prop where
  ex : ∃ f fd, Fun K x x st f fd ∧ mg x = some (.ref f) ∧ Binds K fd ps []
theorem f_call (O : OkF X.prog X.w X.K X.mg X.base x ps k (spD X.K qf G)) (hr : Room k X.A) (hg : Gl X x) (ha : PA X (e :: es) (tA X.K q gs))
    (hdb : (x == ("__debug__" : Str)) = false := by decide) (he : starEach (e :: es) X.env = (false, eval e X.env) :: starEach es X.env := by rfl) (hpl : (backTo pos (starEach es X.env)).any (·.1) = false := by rfl) :
    PE X (.Call (.Name x p) (e :: es) [] pos) (tE X.K q (eFn G gs)) := by
  obtain ⟨f, fd, Fo, hm, hk, hb⟩ := O.ex
  exact e_fn Fo hr hg hm hk hb ha hdb he hpl
theorem f_call0 (O : OkF X.prog X.w X.K X.mg X.base x ps k (spD X.K qf G)) (hr : Room k X.A) (hg : Gl X x)
    (hdb : (x == ("__debug__" : Str)) = false := by decide) : PE X (.Call (.Name x p) [] [] pos) (tE X.K true (eFn G aNil)) := by
  obtain ⟨f, fd, Fo, hm, hk, hb⟩ := O.ex
  exact e_fnN Fo hr hg hm hk hb hdb
theorem f_callL (O : OkF X.prog X.w X.K X.mg X.base x ps k (spD X.K qf G)) (hr : Room k X.A) (hg : Gl X x) (ha : PA X (e :: es) (tL X.K q gl))
    (hdb : (x == ("__debug__" : Str)) = false := by decide) (he : starEach (e :: es) X.env = (false, eval e X.env) :: starEach es X.env := by rfl) (hpl : (backTo pos (starEach es X.env)).any (·.1) = false := by rfl) :
    PE X (.Call (.Name x p) (e :: es) [] pos) (tE X.K (q && qf) (eFnL G gl)) := by
  obtain ⟨f, fd, Fo, hm, hk, hb⟩ := O.ex
  exact e_fnL Fo hr hg hm hk hb ha hdb he hpl
end
section
variable {P : Program} {w : World} {K : PySem.W.Frag} {mg : Str → Option Value} {base : Heap}
theorem okF {x : Str} {st : Stmt} {N ps : List Str} {k : Nat} {q : Bool} {m : M Fl} (D : Df K mg x st ps) (S : FnScope N ps (defScope st))
    (hb : ∀ (f : Addr) (cdv : Value) (A : Around) (outer : List Env) (s : Shared) (H : Hp) (E : XK), Room k (A.deeper (envOfC x (defScope st) s.heap.objs.size f cdv)) →
      PSs (cxOf CX0 P w K mg base N x (defScope st) f cdv A outer s H E).nox (defBody st) (tS K q m)) : OkF P w K mg base x ps (k + 1) (spD K q (runFn ps.length N.length m)) := by
  obtain ⟨f, fd, F, hm, hbd⟩ := D.ex
  exact ⟨f, fd, fn_ok F S (hb f), hm, F.kp, hbd⟩
def noFn : Fn := fun _ => none
theorem okNo {x : Str} {st : Stmt} {ps : List Str} {k : Nat} {q : Bool} (D : Df K mg x st ps) : OkF P w K mg base x ps k (spD K q noFn) := by
  obtain ⟨f, fd, F, hm, hbd⟩ := D.ex
  have no : ∀ vs H Q E, ¬ spD K q noFn vs H Q E := fun vs H Q E ⟨P0, F, A, sl, r, sl', G, e, k⟩ => by cases e
  exact ⟨f, fd, ⟨fun vs H Q E h => absurd h (no vs H Q E), fun A outer s H args us vs Q E hr he hb hv h => absurd h (no vs H Q E)⟩, hm, F.kp, hbd⟩
theorem OkF.mono {x : Str} {ps : List Str} {j k : Nat} {sp : Sp} (O : OkF P w K mg base x ps j sp) (h : j ≤ k) : OkF P w K mg base x ps k sp := by
  obtain ⟨f, fd, Fo, r⟩ := O.ex
  exact ⟨f, fd, Fo.mono h, r⟩
end
end DL
namespace DL
open PySem PySem.Spec PyProof.Rows L2
theorem PSs_as {X : Cx} {st : List Stmt} {q q' : Bool} {m m' : M Fl} (h : PSs X st (tS X.K q m)) (hq : q = q') (hm : m = m') : PSs X st (tS X.K q' m') := by
  subst hq hm
  exact h
end DL
namespace DL
open PySem PySem.Spec PyProof.Rows L2
theorem u65 {A : Around} {k : Nat} (hr : Room k A) : A.units + 65 < cLine := by have := hr.un; omega
end DL
namespace DL
open PySem PySem.Spec PyProof.Rows L2
section
variable {K : PySem.W.Frag} {X : Cx}
/-- is, is not: with None, or of two bools -/
def opIs (t u : T) : Option T := if u.isNone then some (.fr (.bool t.isNone)) else t.asBool.bind fun a => u.asBool.map fun b => .fr (.bool (decide (a = b)))
def opIsNt (t u : T) : Option T := if u.isNone then some (.fr (.bool (!t.isNone))) else t.asBool.bind fun a => u.asBool.map fun b => .fr (.bool (!decide (a = b)))
theorem r_is : OpR X (compareOp .Is) (rT2 X.K opIs) := OpR_mono (OpR.or op_isN op_is_bl) fun x y H Q ⟨F, t, u, z, s, hx, hy, e, k⟩ => by
  unfold opIs at e
  split at e
  · rename_i hu
    have e := Option.some.inj e
    subst e
    exact .inl ⟨of_decide_eq_true ((none_dec hy).trans hu), by rw [none_dec hx]; exact Got.bool s k⟩
  · obtain ⟨a, e1, e2⟩ := Option.bind_eq_some_iff.mp e
    obtain ⟨b, e3, e4⟩ := Option.map_eq_some_iff.mp e2
    subst e4
    exact .inr ⟨a, b, hx.asBool e1, hy.asBool e3, Got.bool s k⟩
theorem r_isnt : OpR X (compareOp .IsNot) (rT2 X.K opIsNt) := OpR_mono (OpR.or op_notN op_isnot_bl) fun x y H Q ⟨F, t, u, z, s, hx, hy, e, k⟩ => by
  unfold opIsNt at e
  split at e
  · rename_i hu
    have e := Option.some.inj e
    subst e
    exact .inl ⟨of_decide_eq_true ((none_dec hy).trans hu), by rw [none_dec hx]; exact Got.bool s k⟩
  · obtain ⟨a, e1, e2⟩ := Option.bind_eq_some_iff.mp e
    obtain ⟨b, e3, e4⟩ := Option.map_eq_some_iff.mp e2
    subst e4
    exact .inr ⟨a, b, hx.asBool e1, hy.asBool e3, Got.bool s k⟩
end
end DL
namespace DL
open PySem PySem.Spec PyProof.Rows L2
/-- what is left of a law: its program gives True at every script -/
def Holds63 (G : Fn) : Prop := ∀ ns : List Int, ns.length ≤ 63 → ∃ ps, G [.own (.scr (ns.map PyData.int))] = some (.fr (.bool true), ps)
theorem law_sp {G : Fn} {q : Bool} (h : Holds63 G) (K : PySem.W.Frag) (H : Hp) (a : Addr) (ns : List Int) (hl : ns.length ≤ 63) (sq : SqL K H a (ns.map V.int)) (E : XK) : spD K q G [.ref a] H (fun v _ => v = .bl true) E := by
  obtain ⟨ps, hg⟩ := h ns hl
  have dp : ∀ ns : List Int, DpAll K H (ns.map V.int) (ns.map PyData.int) := fun ns => by
    induction ns with
    | nil => exact .nil
    | cons n ns ih => exact .cons (.int n) ih
  refine ⟨⟨fun _ => none, 1⟩, H, fun _ => [], _, _, ps, ⟨Same.refl H, rfl, fun i s e => ?_, fun _ _ => rfl, fun _ => List.nodup_nil, fun i j a m => (nomatch m), rfl⟩, hg, fun F' A' H' v _ _ r => ?_⟩
  · cases i with
    | zero =>
      cases e
      exact ⟨.ref a, rfl, .scr sq (dp ns)⟩
    | succ i => cases e
  · obtain ⟨S, o, _⟩ := r
    exact (show Rd K F' H' v _ from ⟨S, o⟩).bool
end DL

/-! DL12: made lists whose items are kept; repr where no repr is under way. -/
namespace DL
open PySem PySem.Spec PyProof.Rows L2
section
variable {K : PySem.W.Frag} {P P' : Gh} {F F' F1 F2 H H' H1 H2 : Hp} {A A' A1 A2 : Nat → List Addr} {ρ ρ' ρ1 ρ2 ρ3 : MS} {σ σ' σ2 : L2.St} {q qa qb qi qt qe : Bool} {X : Cx} {pos : Pos}
/-- one turn's keep or drop, then the rest; what is made stays its own -/
def lcLoopK (vs : List Nat) (m : GM) (c : M Bool) (e : M R) : List PyData → M (List T)
  | [] => fun ρ => some ([], ρ)
  | d :: ds => fun ρ => (m d (wipeM vs ρ)).bind fun ρ1 => (c ρ1).bind fun x => if x.1 then (kp e x.2).bind fun y => (lcLoopK vs m c e ds y.2).map fun z => (y.1 :: z.1, z.2) else lcLoopK vs m c e ds x.2
def lcKM (src : Src) (vs : List Nat) (m : GM) (c : M Bool) (e : M R) : M R := fun ρ => (src ρ).bind fun x => if (vs.all fun v => plainSl (hideM x.1.2 x.2)[v]?) && lineOk x.1.1 then
  (lcLoopK vs m c e x.1.1 (hideM x.1.2 x.2)).bind fun z => (unhide x.1.2 x.2 (giveBack vs (hideM x.1.2 x.2) (wipeM vs z.2))).map fun ρ3 => (.val (.lst z.1), ρ3) else none
theorem lcK_tr {src : Src} {vs ts : List Nat} {m : GM} {c : M Bool} {el : M R} {qi qt qe : Bool} (hts : ∀ j ∈ ts, j ∈ vs) :
    ∀ σ H Q, tE K (qi && (qt && qe)) (lcKM src vs m c el) σ H Q → tLc (tI K qi src) (tG K ts m) (tT K qt c) (tE K qe el) vs σ H Q := fun σ H Q ⟨P, F, A, ρ, r, ρ', G, e, k⟩ => by
  obtain ⟨⟨⟨ds, hd⟩, ρ1⟩, e1, e2⟩ := Option.bind_eq_some_iff.mp (show ((src ρ).bind _) = some (r, ρ') from e)
  have e2 : (if ((vs.all fun v => plainSl (hideM hd ρ1)[v]?) && lineOk ds) = true then (lcLoopK vs m c el ds (hideM hd ρ1)).bind fun z => (unhide hd ρ1 (giveBack vs (hideM hd ρ1) (wipeM vs z.2))).map fun ρ3 => (R.val (.lst z.1), ρ3) else none) = some (r, ρ') := e2
  split at e2
  · rename_i hpl
    rw [Bool.and_eq_true] at hpl
    have hplain : ∀ v ∈ vs, plainSl (hideM hd ρ1)[v]? = true := List.all_eq_true.mp hpl.1
    have hline : ds.length ≤ sizeLine := of_decide_eq_true hpl.2
    obtain ⟨⟨out, ρe⟩, e3, e4⟩ := Option.bind_eq_some_iff.mp e2
    obtain ⟨ρ3, e5, e6⟩ := Option.map_eq_some_iff.mp e4
    injection e6 with e7 e8
    subst e7 e8
    refine ⟨P, F, A, ρ, (ds, hd), ρ1, G, e1, fun P' F1 A1 H1 J N0 G1 E1 wk bk hN _ D hD => ?_⟩
    have fD : F1 D = none := G1.same.free hD
    have gD := Grow.new (o := .lst []) G1.same hD
    have aD : ∀ i, D ∉ A1 i := fun i m => by
      obtain ⟨_, ob, eb⟩ := G1.noF i D m
      rw [hD] at eb; cases eb
    refine ⟨fun i l H2 => l = ds.length - i ∧ i ≤ ds.length ∧ ∃ F2 A2 ρ2 acc done rest S, Good K P' F2 A2 (wipeM vs ρ2) (wipe σ vs) H2 ∧ Ext false F1 A1 H1 F2 A2 H2 ∧ ((qt && qe) = true → ∀ b o, H1 b = some o → H2 b = some o) ∧
      H2 D = some (.lst acc) ∧ F2 D = none ∧ (∀ i, D ∉ A2 i) ∧ OwAll K F2 H2 acc done S ∧ (S.Nodup ∧ D ∉ S ∧ (∀ a ∈ S, ∀ i, a ∉ A2 i) ∧ ∀ a ∈ S, Nw A1 H1 a) ∧ done.length ≤ i ∧ lcLoopK vs m c el (ds.drop i) ρ2 = some (rest, ρe) ∧ done ++ rest = out,
      ⟨_, rfl, Nat.zero_le _, F1, wipeA vs A1, hideM hd ρ1, [], [], out, [], (G1.grow gD).wiped vs rfl, ?_, fun _ b o eb => gD.sH b o eb, upd_same, fD, fun i m => aD i (wipeA_sub m), .nil, ⟨List.nodup_nil, by simp, fun _ m => (nomatch m), fun _ m => (nomatch m)⟩, Nat.le_refl _, e3, rfl⟩, ?_⟩
    · exact ((Ext.refl (q := true)).trans ((gD.ext (q := true)).shrink fun i a m => wipeA_sub m)).le (by simp)
    rintro i l H2 ⟨rfl, hi', F2, A2, ρ2, acc, done, rest, S, G2, E2, Q2, hacc, fD2, aD2, oacc, ⟨ndS, nDS, dS, nwS⟩, hdone, el2, eout⟩
    have st : ∀ a, ¬ N0 a → H2 a = H1 a := fun a z => (E2.frm a fun w => z (hN a w)).1
    by_cases hlt : i < ds.length
    · rw [List.drop_eq_getElem_cons hlt] at el2
      obtain ⟨ρ4, e9, el3⟩ := Option.bind_eq_some_iff.mp (show ((m ds[i] (wipeM vs ρ2)).bind _) = some (rest, ρe) from el2)
      obtain ⟨⟨b, ρ5⟩, e10, el4⟩ := Option.bind_eq_some_iff.mp el3
      refine .inr ⟨wk.goes i H2 hlt st, fun H' => ∃ F2 A2 ρ2 acc done rest S, Good K P' F2 A2 (wipeM vs ρ2) (wipe σ vs) H' ∧ Ext false F1 A1 H1 F2 A2 H' ∧ ((qt && qe) = true → ∀ b o, H1 b = some o → H' b = some o) ∧
        H' D = some (.lst acc) ∧ F2 D = none ∧ (∀ i, D ∉ A2 i) ∧ OwAll K F2 H' acc done S ∧ (S.Nodup ∧ D ∉ S ∧ (∀ a ∈ S, ∀ i, a ∉ A2 i) ∧ ∀ a ∈ S, Nw A1 H1 a) ∧ done.length ≤ i + 1 ∧ lcLoopK vs m c el (ds.drop (i + 1)) ρ2 = some (rest, ρe) ∧ done ++ rest = out, fun H' z => ⟨_, by omega, rfl, hlt, z⟩, fun y H' hy => ?_⟩
      obtain ⟨F3, gr, hd3⟩ := wk.yields i _ F2 H2 y H' (List.getElem?_eq_getElem hlt) st E2.sF G2.same hy
      refine ⟨P', F3, A2, wipeM vs ρ2, ds[i], ρ4, G2.grow gr, hd3, e9, fun A4 σ4 G4 s4 l4 n4 => ?_⟩
      have hw4 : wipe σ4 vs = wipe σ vs := by
        refine List.ext_getElem? fun j => ?_
        by_cases hj : j ∈ vs
        · have a1 := wipe_in (σ := σ4) hj
          have a2 := wipe_in (σ := σ) hj
          rw [a1, a2]
          have : σ4.length = σ.length := by rw [l4, wipe_length]
          rw [this]
        · rw [wipe_out hj, n4 j (fun z => hj (hts j z))]
      refine ⟨hw4, ?_⟩
      have keepD : F3 D = none ∧ H' D = some (.lst acc) := ⟨(gr.old D _ hacc).trans fD2, gr.sH D _ hacc⟩
      have aD4 : ∀ i, D ∉ A4 i := fun i m => aD2 i (s4 i D m)
      have E4 : Ext false F1 A1 H1 F3 A4 H' := ((E2.trans (gr.ext (q := true))).shrink s4).le (by simp)
      -- what was made stands
      have S4 : ∀ a ∈ S, F3 a = none ∧ (∃ o, H2 a = some o ∧ H' a = some o) ∧ ∀ i, a ∉ A4 i := fun a m => by
        obtain ⟨f, u, eu⟩ := OwAll.inS _ _ _ oacc a m
        exact ⟨(gr.old a _ eu).trans f, ⟨u, eu, gr.sH a _ eu⟩, fun i m' => dS a m i (s4 i a m')⟩
      refine ⟨P', F3, A4, ρ4, b, ρ5, G4, e10, fun F5 A5 H5 G5 E5 => ?_⟩
      have nD4 : ¬ Nw A4 H' D := not_nw keepD.2 aD4
      obtain ⟨h5, f5, n5⟩ := E5.frm D nD4
      have Q5 : (qt && qe) = true → ∀ b o, H1 b = some o → H5 b = some o := fun z b o eb => E5.qt (Bool.and_eq_true_iff.mp z).1 b o (gr.sH b o (Q2 z b o eb))
      have S5 : ∀ a ∈ S, F5 a = none ∧ (∃ o, H2 a = some o ∧ H5 a = some o) ∧ ∀ i, a ∉ A5 i := fun a m => by
        obtain ⟨f, ⟨o, o1, o2⟩, n⟩ := S4 a m
        obtain ⟨x1, x2, x3⟩ := E5.frm a (not_nw o2 n)
        exact ⟨x2.trans f, ⟨o, o1, x1.trans o2⟩, x3⟩
      cases b with
      | false =>
        refine iteF ?_
        have el5 : lcLoopK vs m c el (ds.drop (i + 1)) ρ5 = some (rest, ρe) := el4
        exact ⟨F5, wipeA vs A5, ρ5, acc, done, rest, S, G5.wiped vs hw4, ((E4.trans E5).shrink fun i a m => wipeA_sub m).le (by simp), Q5, h5.trans keepD.2, f5.trans keepD.1, fun i m => n5 i (wipeA_sub m),
          OwAll.mono (gr.sF.trans E5.sF) _ _ _ (fun a m => ⟨(S5 a m).1, by obtain ⟨_, ⟨o, o1, o2⟩, _⟩ := S5 a m; rw [o1, o2]⟩) oacc, ⟨ndS, nDS, fun a m i m' => (S5 a m).2.2 i (wipeA_sub m'), nwS⟩, by omega, el5, eout⟩
      | true =>
        refine iteT ?_
        obtain ⟨⟨z, ρ6⟩, e11, el6⟩ := Option.bind_eq_some_iff.mp (show ((kp el ρ5).bind fun y => (lcLoopK vs m c el (ds.drop (i + 1)) y.2).map fun z => (y.1 :: z.1, z.2)) = some (rest, ρe) from el4)
        obtain ⟨⟨rest', ρ7⟩, e12, e13⟩ := Option.map_eq_some_iff.mp el6
        injection e13 with e14 e15
        subst e14 e15
        refine kp_tr (q := qe) G5 e11 fun F7 A7 H7 w S7 G7 E7 oz nd7 d7 n7w => ?_
        have nwD5 : ¬ Nw A5 H5 D := not_nw (h5.trans keepD.2) n5
        obtain ⟨h7, f7, n7⟩ := E7.frm D nwD5
        have hD7 : H7 D = some (.lst acc) := (h7.trans h5).trans keepD.2
        have fD7 : F7 D = none := (f7.trans f5).trans keepD.1
        have hal := OwAll.length oacc
        have S7' : ∀ a ∈ S, F7 a = none ∧ (∃ o, H2 a = some o ∧ H7 a = some o) ∧ (∀ i, a ∉ A7 i) ∧ a ∉ S7 := fun a m => by
          obtain ⟨f, ⟨o, o1, o2⟩, n⟩ := S5 a m
          have nn := not_nw o2 n
          obtain ⟨x1, x2, x3⟩ := E7.frm a nn
          exact ⟨x2.trans f, ⟨o, o1, x1.trans o2⟩, x3, fun m7 => nn (n7w a m7)⟩
        have nD7 : D ∉ S7 := fun m7 => nwD5 (n7w D m7)
        have neD : ∀ a ∈ S, a ≠ D := fun a m z => nDS (z ▸ m)
        have neD7 : ∀ a ∈ S7, a ≠ D := fun a m z => nD7 (z ▸ m)
        have oa : OwAll K F7 (upd H7 D (.lst (acc ++ [w]))) (acc ++ [w]) (done ++ [z]) (S ++ (S7 ++ [])) :=
          OwAll.append (OwAll.mono ((gr.sF.trans E5.sF).trans E7.sF) _ _ _ (fun a m => ⟨(S7' a m).1, by obtain ⟨_, ⟨o, o1, o2⟩, _⟩ := S7' a m; rw [upd_ne (neD a m), o1, o2]⟩) oacc)
            (.cons (Ow.mono (Same.refl F7) _ _ _ (fun a m => ⟨(Ow.inS _ _ _ oz a m).1, upd_ne (neD7 a m)⟩) oz) .nil)
        rw [List.append_nil] at oa
        refine ⟨acc, hD7, by omega, F7, wipeA vs A7, ρ6, acc ++ [w], done ++ [z], rest', S ++ S7, ?_, ?_, fun hz b o eb => ?_, upd_same, fD7, fun i m => n7 i (wipeA_sub m), oa, ⟨?_, ?_, ?_, ?_⟩, by simp; omega, e12, by rw [← eout]; simp⟩
        · refine Good.wiped vs (σ2 := σ4) ⟨fun b o eb => ?_, G7.len, fun j s es => (G7.slot j s es).keep (Same.refl F7) fun a m => ⟨(G7.noF j a m).1, upd_ne fun z => n7 j (z ▸ m)⟩, G7.out, G7.nd, G7.dj, G7.ln⟩ hw4
          rw [upd_ne (fun z => by rw [z, fD7] at eb; cases eb)]
          exact G7.same b o eb
        · refine ⟨((E4.trans E5).trans E7).sF, fun a n => ?_, fun z => by cases z⟩
          obtain ⟨h8, f8, n8⟩ := ((E4.trans E5).trans E7).frm a n
          refine ⟨?_, f8, fun j m => n8 j (wipeA_sub m)⟩
          have : a ≠ D := fun z => by
            subst z
            exact n (.inl hD)
          rw [upd_ne this]
          exact h8
        · rw [upd_ne (fun z => by rw [z, hD] at eb; cases eb)]
          exact E7.qt (Bool.and_eq_true_iff.mp hz).2 b o (Q5 hz b o eb)
        · exact List.nodup_append.mpr ⟨ndS, nd7, fun a m b m' z => (S7' a m).2.2.2 (z ▸ m')⟩
        · exact fun m => (List.mem_append.mp m).elim nDS nD7
        · intro a m i m'
          rcases List.mem_append.mp m with m | m
          · exact (S7' a m).2.2.1 i (wipeA_sub m')
          · exact d7 a m i (wipeA_sub m')
        · intro a m
          rcases List.mem_append.mp m with m | m
          · exact nwS a m
          · exact (E4.trans E5).nw' (n7w a m)
    · have hi2 : i = ds.length := by omega
      subst hi2
      rw [List.drop_length] at el2
      injection (show some (([] : List T), ρ2) = some (rest, ρe) from el2) with el2
      injection el2 with el3 el4
      subst el3 el4
      rw [List.append_nil] at eout
      subst eout
      refine .inl ⟨wk.stops H2 st, ?_⟩
      have G3 := Good.unwiped vs G1 hplain G2 E2.sF
      obtain ⟨A3, G4, s3⟩ := bk F2 A2 _ σ H2 ρ3 G3 E2.sF (fun a _ => E2.frm a) e5
      have E3 : Ext (qi && (qt && qe)) F A H F2 A3 H2 := ⟨E1.sF.trans E2.sF, fun a n => by
        obtain ⟨h2, f2, n2⟩ := (E1.trans E2).frm a n
        exact ⟨h2, f2, fun j m => (s3 j a m).elim (n2 j) fun z => n z.1⟩, fun hz b o eb => by
        rw [Bool.and_eq_true] at hz
        exact Q2 hz.2 b o (E1.qt hz.1 b o eb)⟩
      refine k F2 A3 H2 (.ref D) G4 E3 ⟨D :: S, .lst fD2 hacc oacc, List.nodup_cons.mpr ⟨nDS, ndS⟩, fun a m j mj => ?_, fun a m => ?_⟩
      · rcases List.mem_cons.mp m with rfl | m
        · rcases s3 j a mj with z | z
          · exact aD2 j z
          · exact z.2 (.inl hD)
        · rcases s3 j a mj with z | z
          · exact dS a m j z
          · exact z.2 (nwS a m)
      · rcases List.mem_cons.mp m with rfl | m
        · exact E1.nw' (.inl hD)
        · exact E1.nw' (nwS a m)
  · cases e2
variable {tg iter elt : Expr} {ifs : List Expr} {scope : Scope} {own : List (Str × Nat)} {src : Src} {m : GM} {c : M Bool} {el : M R} {ts : List Nat}
theorem e_lcK (hc : X.calm = true) (hN : X.N.Nodup) (hi : PI X tg iter (tI X.K qi src)) (ok : BlkOk X.N X.env.scope scope own)
    (hg : ∀ (s : Shared) (H : Hp) (C : Addr) (cl : List (Str × Addr)) (fp : List Addr), PG (X.blk s H scope (compEnvC scope cl C X.env) fp) tg (tG X.K ts m))
    (ht : ∀ (s : Shared) (H : Hp) (C : Addr) (cl : List (Str × Addr)) (fp : List Addr), PTs (X.blk s H scope (compEnvC scope cl C X.env) fp) ifs (tT X.K qt c))
    (he : ∀ (s : Shared) (H : Hp) (C : Addr) (cl : List (Str × Addr)) (fp : List Addr), PE (X.blk s H scope (compEnvC scope cl C X.env) fp) elt (tE X.K qe el))
    (hts : ∀ j ∈ ts, j ∈ own.map (·.2)) (hs : ∀ x, foldedSetIterable iter X.env x = pure x := by intro _; rfl) :
    PE X (.ListComp elt [⟨tg, iter, ifs, 0⟩] scope pos) (tE X.K (qi && (qt && qe)) (lcKM src (own.map (·.2)) m c el)) :=
  PE_mono (pe_lc hc hN hi ok hg ht he hs) (lcK_tr hts)
theorem s_setLcK {i : Nat} {y : Str} {py spos : Pos} (hc : X.calm = true) (hN : X.N.Nodup) (hy : X.N[i]? = some y) (hyl : X.env.scope.names.lookup y = some .local)
    (hi : PI X tg iter (tI X.K qi src)) (ok : BlkOk X.N X.env.scope scope own)
    (hg : ∀ (s : Shared) (H : Hp) (C : Addr) (cl : List (Str × Addr)) (fp : List Addr), PG (X.blk s H scope (compEnvC scope cl C X.env) fp) tg (tG X.K ts m))
    (ht : ∀ (s : Shared) (H : Hp) (C : Addr) (cl : List (Str × Addr)) (fp : List Addr), PTs (X.blk s H scope (compEnvC scope cl C X.env) fp) ifs (tT X.K qt c))
    (he : ∀ (s : Shared) (H : Hp) (C : Addr) (cl : List (Str × Addr)) (fp : List Addr), PE (X.blk s H scope (compEnvC scope cl C X.env) fp) elt (tE X.K qe el))
    (hts : ∀ j ∈ ts, j ∈ own.map (·.2)) (hsw : swapsWith (.ListComp elt [⟨tg, iter, ifs, 0⟩] scope pos) (some (.Name y py)) spos.line X.env = pure true) (hs : ∀ x, foldedSetIterable iter X.env x = pure x := by intro _; rfl) :
    PS X (.Assign [.Name y py] (.ListComp elt [⟨tg, iter, ifs, 0⟩] scope pos) spos) (tS X.K (qi && (qt && qe)) (sSet i (lcKM src (own.map (·.2)) m c el))) :=
  PS_mono (ps_setLc hc hN hy hyl hsw hi ok hg ht he hs) fun D σ H h => lcK_tr hts σ H _ (set_tr D σ H h)

/-! ### repr -/
def opRepr (t : T) : Option T := t.erase.bind fun d => if d.showable && (SeqAt.shaped d && decide (d.shown.length ≤ sizeLine)) then some (.fr (.str d.shown)) else none
theorem bt_repr : bootBuiltins "repr" = some (.builtin "repr") := by decide +kernel
theorem noDict_of_lay : ∀ d : PyData, SeqAt.shaped d = true → d.hasDict = false := fun d h => by
  have hl : d.canLay0 = true := by
    unfold SeqAt.shaped at h
    exact (Bool.and_eq_true_iff.mp h).1
  revert hl
  clear h
  exact (go d).1
where
  go : (d : PyData) → (d.canLay0 = true → d.hasDict = false) ∧ True
  | .none => ⟨fun _ => rfl, trivial⟩
  | .bool _ => ⟨fun _ => rfl, trivial⟩
  | .int _ => ⟨fun _ => rfl, trivial⟩
  | .str _ => ⟨fun _ => rfl, trivial⟩
  | .list xs => ⟨fun h => goAll xs h, trivial⟩
  | .tuple xs => ⟨fun h => goAll xs h, trivial⟩
  | .dict _ => ⟨fun h => (nomatch (show false = true from h)), trivial⟩
  goAll : (xs : List PyData) → PyData.canLayAll0 xs = true → PyData.hasDictAll xs = false
  | [], _ => rfl
  | x :: xs, h => by
    have h : (x.canLay0 && PyData.canLayAll0 xs) = true := h
    rw [Bool.and_eq_true] at h
    show (PyData.hasDict x || PyData.hasDictAll xs) = false
    rw [(go x).1 h.1, goAll xs h.2]; rfl
theorem r_repr (hg : X.A.guards = some []) (hu : X.A.units + 65 < cLine) : CallR X (.builtin "repr") (rT11 X.K opRepr) := by
  intro pins s σ H xs us Q I r h
  obtain ⟨x, rfl, F, t, z, sm, hx, e, k⟩ := h
  obtain ⟨d, e1, e2⟩ := Option.bind_eq_some_iff.mp (show (t.erase.bind _) = some z from e)
  split at e2
  · rename_i hc
    rw [Bool.and_eq_true, Bool.and_eq_true, decide_eq_true_eq] at hc
    obtain ⟨h1, h2, h3⟩ := hc
    have e2 := Option.some.inj e2
    subst e2
    have dx := hx.data sm e1
    obtain ⟨u, rfl, ru⟩ := vals1 r
    have fin : ∀ (s' : Shared) (tk : Tok), Inv X pins σ H s' → EP X pins σ Q (.str d.shown tk) s' := fun s' tk J => ⟨.str d.shown, H, J, ⟨tk, rfl⟩, Got.str sm k⟩
    cases dx with
    | non =>
      obtain rfl : u = .none := ru
      exact PySem.P.repr_of_none (fin _ _ (I.tok _))
    | bl b =>
      obtain rfl : u = .bool b := ru
      exact PySem.P.repr_of_bool (fin _ _ (I.tok _))
    | int i =>
      obtain ⟨t', rfl⟩ := ru
      exact PySem.P.repr_of_int (of_decide_eq_true h1) (fin _ _ (I.tok _))
    | str y =>
      obtain ⟨t', rfl⟩ := ru
      exact PySem.P.repr_of_str (fin _ _ (I.tok _)) h3
    | lst a b =>
      obtain ⟨as, rd⟩ := L2.Dp.reads I _ _ u (DL.Dp.to _ _ (DL.Dp.lst a b)) ru
      obtain rfl : u = .ref _ := ru
      have hdp : PyData.depth _ ≤ 64 := of_decide_eq_true (Bool.and_eq_true_iff.mp (show (_ && _) = true from h2)).2
      exact PySem.repr_of_reads' rd h1 (fun z => by rw [noDict_of_lay _ h2] at z; cases z) hg (by omega) (fun _ _ e => e) (fun h' u' tk hk => fin _ _ (I.kept hk)) h3
    | tup a b =>
      obtain ⟨as, rd⟩ := L2.Dp.reads I _ _ u (DL.Dp.to _ _ (DL.Dp.tup a b)) ru
      obtain rfl : u = .ref _ := ru
      have hdp : PyData.depth _ ≤ 64 := of_decide_eq_true (Bool.and_eq_true_iff.mp (show (_ && _) = true from h2)).2
      exact PySem.repr_of_reads' rd h1 (fun z => by rw [noDict_of_lay _ h2] at z; cases z) hg (by omega) (fun _ _ e => e) (fun h' u' tk hk => fin _ _ (I.kept hk)) h3
  · cases e2
end
end DL

/-! DL13: defs that are run where no repr is under way. -/
namespace DL
open PySem PySem.Spec PyProof.Rows L2
/-- a def's promise to callers under whom nothing is being shown -/
structure FnOkG (P : Program) (w : World) (K : PySem.W.Frag) (mg : Str → Option Value) (base : Heap) (k : Nat) (f : Addr) (fd : FuncData) (ps : List Str) (sp : Sp) : Prop where
  len : ∀ vs H Q E, sp vs H Q E → vs.length = ps.length
  run : ∀ (A : Around), A.guards = some [] → Room k A → ∀ (outer : List Env) (s : Shared) (H : Hp) (args : Args) (us : List Value) (vs : List V) (Q : VK) (E : XK), Env0 P w K mg base A outer s H → BindsTo s fd args (ps.zip us) → Vals vs us → sp vs H Q E →
    codeAny (model P w) A (.call (.ref f) args) (CR CX0 outer P w H s Q E) s
section
variable {P : Program} {w : World} {K : PySem.W.Frag} {mg : Str → Option Value} {base : Heap}
theorem FnOkG.mono {j k : Nat} {f : Addr} {fd : FuncData} {ps : List Str} {sp : Sp} (F : FnOkG P w K mg base j f fd ps sp) (h : j ≤ k) : FnOkG P w K mg base k f fd ps sp :=
  ⟨F.len, fun A hg hr => F.run A hg (hr.mono h)⟩
theorem fnG_body {x qual : Str} {st : Stmt} {f : Addr} {fd : FuncData} {N ps : List Str} {k : Nat} {sp : Sp} (Fu : Fun K x qual st f fd) (S : FnScope N ps (defScope st)) (hlen : ∀ vs H Q E, sp vs H Q E → vs.length = ps.length)
    (body : ∀ (cdv : Value) (A : Around), A.guards = some [] → ∀ (outer : List Env) (s : Shared) (H : Hp) (vs : List V) (Q : VK) (E : XK), Room k (A.deeper (envOfC qual (defScope st) s.heap.objs.size f cdv)) → sp vs H Q E →
      ∃ t, PSs (cxOf CX0 P w K mg base N qual (defScope st) f cdv A outer s H E).nox (defBody st) t ∧ t { nx := fun _ H' => Q .non H', rt := Q } (L2.start N vs) H) : FnOkG P w K mg base (k + 1) f fd ps sp := by
  obtain ⟨oc, od, kV, doc, pm, an, cdv, ct, osl, rfl, lk, hcd⟩ := Fu.ex
  refine ⟨hlen, fun A hg hr outer s H args us vs Q E E0' hbind rv hsp => ?_⟩
  have kin : K.In s.heap := E0'.mod.kin.keeps fun b o e => (E0'.bs b o e).1
  have nl : s.heap.NoLimit := E0'.mod.nolimit.keeps fun b o e => (E0'.bs b o e).1
  refine codeAny_call_function hr.depth (kin _ _ lk) rfl S.co S.gen rfl (PySem.W.codeRec_of kin hcd) (hbind _ _ _ _ ?_)
  refine wpAny_newFunctionEnv_cells S.kind (fun y hy => ?_) fun env he s1 entered => ?_
  · rcases S.par y.1 (List.of_mem_zip (a := y.1) (b := y.2) hy).1 with q | q
    · exact .inl q
    · exact .inr ⟨q, PySem.W.cellsFrom_some _ _ _ (.inl q)⟩
  · subst he
    refine ⟨nl.keeps entered.toInCall.keep, codeAny_func ?_⟩
    obtain ⟨t, ht, go⟩ := body cdv A hg outer s H vs Q E (hr.deeper _) hsp
    have start0 := inv_start (CX := CX0) (E := E) S hr.hd E0' (hlen _ _ _ _ hsp) rv entered
    refine wpAny_mono (ht.nox.run [] s1 (L2.start N vs) H _ start0 go) (fun fl s' after => ?_) fun e s' after => after
    match fl, after with
    | .ret u, ⟨v, σ', H', J, rv', q⟩ => exact ⟨v, H', J.os, J.bare, J.base, J.hok, rv', q⟩
    | .next, ⟨σ', H', J, q⟩ => exact ⟨V.non, H', J.os, J.bare, J.base, J.hok, rfl, q⟩
    | .brk, ⟨_, _, _, q⟩ => exact q.elim
    | .cont, ⟨_, _, _, q⟩ => exact q.elim
end
section
variable {X : Cx} {k : Nat} {f : Addr} {fd : FuncData} {ps : List Str} {sp : Sp} {x : Str} {p pos : Pos} {e : Expr} {es : List Expr} {t : TA}
theorem pe_callG (F : FnOkG X.prog X.w X.K X.mg X.base k f fd ps sp) (hgd : X.A.guards = some []) (hr : Room k X.A) (hg : Gl X x) (hm : X.mg x = some (.ref f)) (hk : PySem.W.keepIn X.K (.ref f) = true) (hb : Binds X.K fd ps []) (ha : PA X (e :: es) t)
    (hdb : (x == ("__debug__" : Str)) = false := by decide) (he : starEach (e :: es) X.env = (false, eval e X.env) :: starEach es X.env := by rfl) (hpl : (backTo pos (starEach es X.env)).any (·.1) = false := by rfl) :
    PE X (.Call (.Name x p) (e :: es) [] pos) (tCall sp [] E0 t) := by
  refine ⟨fun pins s σ H Q I want => ?_⟩
  refine wpAny_Call_Name_kw (ld_glob I hg hm ?_ hdb)
  refine PySem.W.callWith_K (h₀ := X.base) I.ok.mod.kin hk (thn (ha.run pos pins s σ H _ I want) fun us s1 ⟨vs, H1, J, rv, q⟩ => ⟨J.kIn, ?_⟩) he hpl
  have q' : sp vs H1 Q E0 := by simpa using q
  have bound := hb s1 us J.kIn (by rw [List.append_nil, ← rv.length]; exact F.len _ _ _ _ q')
  rw [List.append_nil] at bound
  refine wpAny_call (codeAny_mono (F.run X.A hgd hr X.stack s1 H1 ⟨us, []⟩ us vs Q E0 J.env0 bound rv q') fun r s2 after => ?_)
  match r, after with
  | .error er, after => exact pass0 pins σ H1 s1 er s2 J after
  | .ok (.ret u), after => exact J.after after
end
section
variable {X : Cx} {x : Str} {p pos : Pos} {e : Expr} {es : List Expr} {gs : M (List PyData)} {gl : M (List PyData × R × List PyData)} {ps : List Str} {k : Nat} {G : Fn} {q qf : Bool}
structure OkFG (P : Program) (w : World) (K : PySem.W.Frag) (mg : Str → Option Value) (base : Heap) (x : Str) (ps : List Str) (k : Nat) (sp : Sp) : Prop where
  ex : ∃ f fd, FnOkG P w K mg base k f fd ps sp ∧ mg x = some (.ref f) ∧ PySem.W.keepIn K (.ref f) = true ∧ Binds K fd ps []
theorem OkFG.mono {P : Program} {w : World} {K : PySem.W.Frag} {mg : Str → Option Value} {base : Heap} {sp : Sp} {j : Nat} (O : OkFG P w K mg base x ps j sp) (h : j ≤ k) : OkFG P w K mg base x ps k sp := by
  obtain ⟨f, fd, F, a, b, c⟩ := O.ex
  exact ⟨f, fd, F.mono h, a, b, c⟩
theorem f_callG (O : OkFG X.prog X.w X.K X.mg X.base x ps k (spD X.K qf G)) (hgd : X.A.guards = some []) (hr : Room k X.A) (hg : Gl X x) (ha : PA X (e :: es) (tA X.K q gs))
    (hdb : (x == ("__debug__" : Str)) = false := by decide) (he : starEach (e :: es) X.env = (false, eval e X.env) :: starEach es X.env := by rfl) (hpl : (backTo pos (starEach es X.env)).any (·.1) = false := by rfl) :
    PE X (.Call (.Name x p) (e :: es) [] pos) (tE X.K q (eFn G gs)) := by
  obtain ⟨f, fd, Fo, hm, hk, hb⟩ := O.ex
  refine PE_mono (pe_callG Fo hgd hr hg hm hk hb ha hdb he hpl) fun σ H Q h => ?_
  have h' := fn_tr (qf := qf) (fun _ _ _ h => h) σ H Q h
  show tA X.K q gs σ H fun vs H1 => spD X.K qf G (vs ++ []) H1 Q E0
  simpa only [List.append_nil] using h'
theorem f_callLG (O : OkFG X.prog X.w X.K X.mg X.base x ps k (spD X.K qf G)) (hgd : X.A.guards = some []) (hr : Room k X.A) (hg : Gl X x) (ha : PA X (e :: es) (tL X.K q gl))
    (hdb : (x == ("__debug__" : Str)) = false := by decide) (he : starEach (e :: es) X.env = (false, eval e X.env) :: starEach es X.env := by rfl) (hpl : (backTo pos (starEach es X.env)).any (·.1) = false := by rfl) :
    PE X (.Call (.Name x p) (e :: es) [] pos) (tE X.K (q && qf) (eFnL G gl)) := by
  obtain ⟨f, fd, Fo, hm, hk, hb⟩ := O.ex
  refine PE_mono (pe_callG Fo hgd hr hg hm hk hb ha hdb he hpl) fun σ H Q h => ?_
  have h' := fnL_tr (q' := q && qf) (qf := qf) (fun _ _ _ h => h) (fun z => Bool.and_eq_true_iff.mp z) σ H Q h
  show tL X.K q gl σ H fun vs H1 => spD X.K qf G (vs ++ []) H1 Q E0
  simpa only [List.append_nil] using h'
end
section
variable {P : Program} {w : World} {K : PySem.W.Frag} {mg : Str → Option Value} {base : Heap}
/-- the state at the law's call -/
theorem at_call {mb : Str → Option Value} {a : Addr} {s₁ : Shared} {vs : List Value} {ns : List Int} (KX : K.In s₁.heap) (hns : s₁.heap.Ns mainGlobals mg) (hb : s₁.heap.Ns builtinsNs mb) (hbb : ∀ x : Str, x ≠ "__name__" → mb x = bootBuiltins x)
    (hlim : s₁.heap.NoLimit) (hgen : s₁.gens = #[]) (ha : s₁.heap.get? a = some { cls := .type "list", data := .seq vs.toArray }) (hi : IntsAre vs ns) (hl : ns.length ≤ sizeLine) :
    ∃ (base : Heap) (H : Hp), K.In base ∧ base.Ns mainGlobals mg ∧ Only H ∧ SqL K H a (ns.map V.int) ∧ Env0 P w K mg base callerA [] s₁ H := by
  have rv := vals_ints hi
  have inner : ∀ H : Hp, Only H → SqL K H a (ns.map V.int) → HOk P w H s₁.heap → (∀ b o, H b = some o → b = a ∧ K.lookup a = none) → ∃ (base : Heap) (H : Hp), K.In base ∧ base.Ns mainGlobals mg ∧ Only H ∧ SqL K H a (ns.map V.int) ∧ Env0 P w K mg base callerA [] s₁ H := fun H only sq ok just => by
    have free : ∀ {b : Addr} {o : Obj}, s₁.heap.get? b = some o → (b = a → K.lookup a ≠ none ∨ ∀ xs n, o.data ≠ .seq xs n) → (hidT s₁.heap H).get? b = some o := fun {b o} e hne => hidT_get e (by
      cases z : H b with
      | none => rfl
      | some u =>
        obtain ⟨rfl, kn⟩ := just b u z
        rcases hne rfl with y | y
        · exact absurd kn y
        · rw [ha] at e
          cases e
          exact absurd rfl (y _ _))
    have kin : K.In (hidT s₁.heap H) := fun b o e => free (KX b o e) fun z => .inl (by rw [← z, e]; exact fun z => nomatch z)
    have nsOf : ∀ {b : Addr} {m : Str → Option Value}, s₁.heap.Ns b m → (hidT s₁.heap H).Ns b m := fun {b m} ⟨o, es, ep, e, d, rest⟩ => ⟨o, es, ep, free e (fun _ => .inr fun xs n z => by rw [d] at z; cases z), d, rest⟩
    obtain ⟨mc, l1, l2⟩ := hlim
    exact ⟨hidT s₁.heap H, H, kin, nsOf hns, only, sq, rfl, ⟨kin, nsOf hns, ⟨mb, nsOf hb, hbb⟩, ⟨mc, nsOf l1, l2⟩⟩, fun b o e => of_hidT e, Nat.le_of_eq (hidT_size _ _), trivial, (fun b z => nomatch (show b ∈ ([] : List Addr) from z)), ok, .of_eq hgen⟩
  have hlen := hi.length
  match hk : K.lookup a with
  | some o =>
    have e := (KX a o hk).symm.trans ha
    cases e
    exact inner (fun _ => none) (fun _ => .inl rfl) (.inr ⟨_, vs.toArray, _, hk, rfl, rfl, rfl, by rw [List.size_toArray, hlen]; exact hl, by simpa using rv⟩) (fun b u z => nomatch (show (none : Option HO) = some u from z)) fun b u z => nomatch (show (none : Option HO) = some u from z)
  | none =>
    let ob : Obj := { cls := .type "list", data := .seq vs.toArray }
    have at1 : ∀ b u, upd (fun _ => none) a (HO.frz ob (.lst (ns.map V.int))) b = some u → b = a ∧ u = HO.frz ob (.lst (ns.map V.int)) := fun b u z => by
      by_cases y : b = a
      · subst y
        rw [upd_same] at z
        exact ⟨rfl, (Option.some.inj z).symm⟩
      · rw [upd_ne y] at z; cases z
    refine inner (upd (fun _ => none) a (HO.frz ob (.lst (ns.map V.int)))) (fun b => ?_) (.inl (.inr ⟨ob, upd_same⟩)) (fun b u z => ?_) fun b u z => ⟨(at1 b u z).1, hk⟩
    · by_cases y : b = a
      · subst y; exact .inr ⟨ob, _, upd_same⟩
      · exact .inl (upd_ne y)
    · obtain ⟨rfl, rfl⟩ := at1 b u z
      exact ⟨ha, by rw [List.length_map]; exact hl, vs, _, rv, ha⟩
theorem law_runG {k : Nat} {mb : Str → Option Value} {fa a : Addr} {fd : FuncData} {x : Str} {sp : Sp} {s₁ : Shared} {vs : List Value} {ns : List Int} (KX : K.In s₁.heap) (hns : s₁.heap.Ns mainGlobals mg) (hb : s₁.heap.Ns builtinsNs mb) (hbb : ∀ x : Str, x ≠ "__name__" → mb x = bootBuiltins x)
    (hlim : s₁.heap.NoLimit) (hgen : s₁.gens = #[]) (ha : s₁.heap.get? a = some { cls := .type "list", data := .seq vs.toArray }) (hi : IntsAre vs ns) (hl : ns.length ≤ sizeLine) (hr : Room k callerA)
    (F : ∀ base : Heap, K.In base → base.Ns mainGlobals mg → FnOkG P w K mg base k fa fd [x] sp) (hbind : ∀ (s : Shared) (u : Value), BindsTo s fd ⟨[u], []⟩ [(x, u)])
    (hsp : ∀ H : Hp, SqL K H a (ns.map V.int) → sp [.ref a] H (fun v _ => v = .bl true) fun _ _ _ => False) :
    codeAny (model P w) callerA (.call (.ref fa) ⟨[.ref a], []⟩) (fun r s' => r = .ok (.ret (.bool true)) ∧ OldK s₁.heap s'.heap ∧ s'.os = s₁.os ∧ AllBare s'.gens) s₁ := by
  obtain ⟨base, H, b1, b2, only, sq, en⟩ := at_call (P := P) (w := w) KX hns hb hbb hlim hgen ha hi hl
  refine codeAny_mono ((F base b1 b2).run callerA rfl hr [] s₁ H ⟨[.ref a], []⟩ [.ref a] [.ref a] _ _ en (hbind s₁ (.ref a)) (.cons rfl .nil) (hsp H sq)) fun r s' after => ?_
  match r, after with
  | .ok (.ret u), ⟨v, H', os, bare, un, ok', rv, q⟩ =>
    have hv : v = .bl true := q
    subst hv
    have hu : u = Value.bool true := rv
    subst hu
    refine ⟨rfl, OldK.of_keep fun b o e => ?_, os, bare⟩
    rcases only b with z | ⟨ob, xs, z⟩
    · exact un.keep b o e z (fun y => nomatch (show b ∈ ([] : List Addr) from y)) (by simp)
    · have z1 := (en.hok b _ z).1
      have z2 := (ok' b _ (un.frzs b ob _ z)).1
      exact z2.trans (z1.symm.trans e)
end
end DL
namespace DL
open PySem PySem.Spec PyProof.Rows L2
section
variable {P : Program} {w : World} {K : PySem.W.Frag} {mg : Str → Option Value} {base : Heap}
theorem fn_okG {x qual : Str} {st : Stmt} {f : Addr} {fd : FuncData} {N ps : List Str} {k : Nat} {q : Bool} {m : M Fl} (Fu : Fun K x qual st f fd) (S : FnScope N ps (defScope st))
    (hb : ∀ (cdv : Value) (A : Around), A.guards = some [] → ∀ (outer : List Env) (s : Shared) (H : Hp) (E : XK), Room k (A.deeper (envOfC qual (defScope st) s.heap.objs.size f cdv)) →
      PSs (cxOf CX0 P w K mg base N qual (defScope st) f cdv A outer s H E).nox (defBody st) (tS K q m)) :
    FnOkG P w K mg base (k + 1) f fd ps (spD K q (runFn ps.length N.length m)) := by
  have hpl : ps.length ≤ N.length := by have := congrArg List.length S.pre; rw [List.length_take] at this; omega
  exact fnG_body Fu S fn_len fun cdv A hg outer s H vs Q E hr h => ⟨_, hb cdv A hg outer s H E hr, fn_enter hpl h⟩
theorem okFG {x : Str} {st : Stmt} {N ps : List Str} {k : Nat} {q : Bool} {m : M Fl} (D : Df K mg x st ps) (S : FnScope N ps (defScope st))
    (hb : ∀ (f : Addr) (cdv : Value) (A : Around), A.guards = some [] → ∀ (outer : List Env) (s : Shared) (H : Hp) (E : XK), Room k (A.deeper (envOfC x (defScope st) s.heap.objs.size f cdv)) →
      PSs (cxOf CX0 P w K mg base N x (defScope st) f cdv A outer s H E).nox (defBody st) (tS K q m)) : OkFG P w K mg base x ps (k + 1) (spD K q (runFn ps.length N.length m)) := by
  obtain ⟨f, fd, F, hm, hbd⟩ := D.ex
  exact ⟨f, fd, fn_okG F S (hb f), hm, F.kp, hbd⟩
end
/-- the goal behind the head, for a law that shows data -/
theorem walkG {l : PySem.W.OpenLaw} {n k : Nat} {q : Program} {loose : List Str} {XP : (Str → Option Value) → Heap → Prop} {YP : World → Heap → Prop} {d : DefRec} {K : Params → PySem.W.Frag} {sp : World → Sp} {x : Str} (hn : l.most = some n) (hn2 : n ≤ sizeLine) (hdf : d.params.defaults = []) (hr : Room k callerA)
    (hY : ∀ (w : World) (h : Heap), YP w h → (K w.params).In h)
    (F : ∀ (w : World) (mg : Str → Option Value) (fa : Addr) (h : Heap), (K w.params).In h → h.Ns mainGlobals mg → mg d.name = some (.ref fa) →
      ∃ fd : FuncData, (∀ (s : Shared) (u : Value), BindsTo s fd ⟨[u], []⟩ [(x, u)]) ∧ ∀ base : Heap, (K w.params).In base → base.Ns mainGlobals mg → FnOkG l.prog w (K w.params) mg base k fa fd [x] (sp w))
    (hsp : ∀ (w : World) (H : Hp) (a : Addr) (ns : List Int), ns.length ≤ n → SqL (K w.params) H a (ns.map V.int) → sp w [.ref a] H (fun v _ => v = .bl true) fun _ _ _ => False) :
    PySem.W.WalkO q loose XP YP l.row.toRowW d [] (fun f vs => PySem.call f vs) :=
  Att.attach_call hn hdf fun w s₀ s₁ mg mb fa o pm cd doc a vs ns G Y _ _ _ hmg hobj hints hlen hgen => by
    have KX := hY w _ Y
    obtain ⟨fd, bound, hF⟩ := F w mg fa _ KX G.T.g hmg
    exact law_runG KX G.T.g G.T.b G.T.builtins G.T.nolimit hgen hobj hints (Nat.le_trans hlen hn2) hr hF bound fun H sq => hsp w H a ns hlen sq
end DL

/-! DL14: o[k].m(f(x, ..)): the call lends another variable than the one that is changed. -/
namespace DL
open PySem PySem.Spec PyProof.Rows L2
section
variable {K : PySem.W.Frag} {P P' : Gh} {F F' F1 F2 H H' H1 H2 : Hp} {A A' A1 A2 : Nat → List Addr} {ρ ρ' ρ1 ρ2 ρ3 : MS} {σ σ' σ2 : L2.St} {q qa qb qi qt qe qf : Bool} {X : Cx} {pos : Pos}
theorem Kids.keep {l : Addr} {xs : List V} (h : Kids H l xs) (e : H' l = H l) : Kids H' l xs := by
  unfold Kids at h ⊢
  rw [e]
  exact h
theorem VAt.keep : ∀ {p : Path} {t : T} {v0 v u : V} {S : List Addr} {tu : T}, Ow K F H v0 t S → t.get p = some tu → (∀ a ∈ S, H' a = H a) → VAt H v0 p v → VAt H' v0 p v
  | [], _, _, _, _, _, _, _, _, _, h => h
  | k :: p, t, v0, v, u, S, tu, o, e, same, ⟨l, xs, w, e1, e2, e3, e4⟩ => by
    subst e1
    obtain ⟨c, e5, e6⟩ := Option.bind_eq_some_iff.mp (show ((t.kids.bind fun ts => ts[k]?).bind fun u => u.get p) = some tu from e)
    obtain ⟨ts, e7, e8⟩ := Option.bind_eq_some_iff.mp e5
    have go : ∀ (xs' : List V) (S' : List Addr), Kids H l xs' → OwAll K F H xs' ts S' → S = l :: S' → VAt H' (.ref l) (k :: p) v := fun xs' S' hk oa hS => by
      have hx := e2.inj hk
      subst hx
      obtain ⟨w', S1, Sa, Sb, h1, h2, h3, _⟩ := OwAll.at oa e8
      have hw : w' = w := Option.some.inj (h1.symm.trans e3)
      subst hw
      refine ⟨l, xs, w', rfl, e2.keep (same l (by rw [hS]; exact List.mem_cons_self)), e3, VAt.keep (u := u) h3 e6 (fun a m => same a ?_) e4⟩
      rw [hS, h2]
      exact List.mem_cons_of_mem _ (List.mem_append_right _ (List.mem_append_left _ m))
    cases o with
    | fr _ => cases e7
    | scr _ _ => cases e7
    | lst a b c => cases e7; exact go _ _ (.inl b) c rfl
    | tup a b c => cases e7; exact go _ _ (.inr (.inl b)) c rfl
    | dic a b d c => cases e7; exact go _ _ (.inr (.inr ⟨_, b, d⟩)) c rfl
def notFrom (i : Nat) : R → Bool
  | .bor j _ => decide (j ≠ i)
  | .val _ => true
def mutMO (ty : String) (f : T → List T → Option (T × T)) (g : M R) (G : Fn) (gl : M (List PyData × R × List PyData)) : M R := fun ρ => (g ρ).bind fun x => (look x.2 x.1).bind fun t0 => if tyT ty t0 = true then
  match x.1 with
  | .bor i p => (gl x.2).bind fun y => if notFrom i y.1.2.1 = true then (eFnL G gl x.2).bind fun z => match z.1 with
    | .val (.fr d) => z.2[i]?.bind fun s => s.tree?.bind fun t => (t.get p).bind fun u => (f u [.fr d]).map fun r => (.val r.2, z.2.set i (s.with (t.put p r.1)))
    | _ => none else none
  | .val _ => none else none
theorem mutMO_tr {T' : String} {f : T → List T → Option (T × T)} {g : M R} {G : Fn} {gl : M (List PyData × R × List PyData)} (hty : ∀ F H v t, Same F H → Rd K F H v t → tyT T' t = true → tyV K T' v H) :
    ∀ σ H Q, tE K false (mutMO T' f g G gl) σ H Q → tE K q g σ H fun x H1 => tyV K T' x H1 ∧ tCons (tCall (spD K qf G) [] E0 (tL K true gl)) tNil σ H1 fun xs H2 => rMut K f x xs H2 Q := fun σ H Q ⟨P, F, A, ρ, r0, ρ', G0, e, k⟩ => by
  obtain ⟨⟨x, ρ1⟩, e1, e2⟩ := Option.bind_eq_some_iff.mp (show ((g ρ).bind _) = some (r0, ρ') from e)
  obtain ⟨t0, e3, e4⟩ := Option.bind_eq_some_iff.mp e2
  split at e4
  · rename_i ty
    cases x with
    | val _ => cases e4
    | bor i p =>
      obtain ⟨⟨y, ρ2⟩, e5, e6⟩ := Option.bind_eq_some_iff.mp (show ((gl ρ1).bind _) = some (r0, ρ') from e4)
      split at e6
      · rename_i nf
        obtain ⟨⟨z, ρ3⟩, e7, e8⟩ := Option.bind_eq_some_iff.mp e6
        have fin : ∀ d, z = .val (.fr d) → tE K q g σ H fun x H1 => tyV K T' x H1 ∧ tCons (tCall (spD K qf G) [] E0 (tL K true gl)) tNil σ H1 fun xs H2 => rMut K f x xs H2 Q := fun d hz => by
          subst hz
          have e8 : (ρ3[i]?.bind fun s => s.tree?.bind fun t => (t.get p).bind fun u => (f u [.fr d]).map fun r => (R.val r.2, ρ3.set i (s.with (t.put p r.1)))) = some (r0, ρ') := e8
          obtain ⟨s, es, e9⟩ := Option.bind_eq_some_iff.mp e8
          obtain ⟨t, et, e10⟩ := Option.bind_eq_some_iff.mp e9
          obtain ⟨u, eu, e11⟩ := Option.bind_eq_some_iff.mp e10
          obtain ⟨⟨t', rr⟩, ef, e12⟩ := Option.map_eq_some_iff.mp e11
          injection e12 with e13 e14
          subst e13 e14
          refine ⟨P, F, A, ρ, _, ρ1, G0, e1, fun F1 A1 H1 v1 G1 E1 R1 => ⟨hty F1 H1 v1 t0 G1.same (R1.look G1 e3) ty, ?_⟩⟩
          have main := fnL_trK (q := true) (q' := false) (qf := qf) (G := G) (gl := gl) (t := tL K true gl) (K := K) (fun _ _ _ h => h) (fun z => by cases z) σ H1 (fun xv H3 => rMut K f v1 [xv] H3 Q) ⟨P, F1, A1, ρ1, .val (.fr d), ρ3, G1, e7, fun F3 A3 H3 xv G3 E3 R3 K3 => ?_⟩
          · show tL K true gl σ H1 fun vs H2 => spD K qf G (vs ++ []) H2 (fun xv H3 => rMut K f v1 [xv] H3 Q) E0
            simpa only [List.append_nil] using main
          · obtain ⟨z', ρ2', F2, A2, H2, e5', G2, E2, keep⟩ := K3
            rw [e5] at e5'
            injection e5' with e5'
            injection e5' with e15 e16
            subst e15 e16
            obtain ⟨k1, k2⟩ := keep i fun p' hp => by
              have nf : notFrom i y.2.1 = true := nf
              rw [hp] at nf
              exact of_decide_eq_true nf rfl
            obtain ⟨v0, ev, va⟩ := R1.wait E2 (show (R.bor i p).waits true = true from rfl)
            have es2 : ρ2[i]? = some s := k1.symm.trans es
            obtain ⟨v1', ev1, o, _⟩ := G2.slotTree es2 et
            rw [ev] at ev1
            injection ev1 with ev1
            injection ev1 with ev1
            subst ev1
            have va3 := VAt.keep (u := v0) o eu k2 va
            obtain ⟨S, od, _, _, _⟩ := R3
            cases od with
            | fr hd => exact mut_fin ((E1.trans E3).le (fun z => by cases z)) G3 es et eu ef ev va3 (.cons (S1 := []) (.fr hd) .nil) List.nodup_nil (fun _ m => nomatch m) (fun _ m => nomatch m) k
        cases z with
        | bor _ _ => cases e8
        | val tz =>
          cases tz with
          | fr d => exact fin d rfl
          | lst _ => cases e8
          | tup _ => cases e8
          | dic _ _ => cases e8
          | scr _ => cases e8
      · cases e6
  · cases e4
variable {T' name id : _} {o e : Expr} {es : List Expr} {apos cpos p : Pos} {x : Str} {ps : List Str} {k : Nat}
theorem e_mutO {T' : String} {name : Str} {id : String} {f : T → List T → Option (T × T)} {g : M R} {G : Fn} {gl : M (List PyData × R × List PyData)} (pa : PlainAttrs T') (slot : Slot T' name id) (hty : typeOf (.builtin id) = pure (.type "method_descriptor")) (hT : ∀ F H v t, Same F H → Rd X.K F H v t → tyT T' t = true → tyV X.K T' v H) (hm : MtR X id (rMut X.K f)) (ho : PE X o (tE X.K q g))
    (O : OkF X.prog X.w X.K X.mg X.base x ps k (spD X.K qf G)) (hr : Room k X.A) (hg : Gl X x) (ha : PA X (e :: es) (tL X.K true gl))
    (hdb : (x == ("__debug__" : Str)) = false := by decide) (he : starEach (e :: es) X.env = (false, eval e X.env) :: starEach es X.env := by rfl) (hpl : (backTo pos (starEach es X.env)).any (·.1) = false := by rfl)
    (hbase : attributeBase o name X.env (eval o X.env) = eval o X.env := by rfl)
    (hfew : ((backTo cpos (starEach [.Call (.Name x p) (e :: es) [] pos] X.env)).all (fun x => !x.1) && (backToKw cpos (keywordEach [] X.env)).all (fun x => x.1.isSome)
      && decide ([Expr.Call (.Name x p) (e :: es) [] pos].length + ([] : List Keyword).length + (if ([] : List Keyword).isEmpty then 0 else 1) < 30)) = true := by rfl)
    (hline : (apos.endLine == cpos.line) = true := by rfl) (hs : starEach [.Call (.Name x p) (e :: es) [] pos] X.env = (false, eval (.Call (.Name x p) (e :: es) [] pos) X.env) :: starEach [] X.env := by rfl) (hplain : (backTo cpos (starEach [] X.env)).any (·.1) = false := by rfl) :
    PE X (.Call (.Attribute o name apos) [.Call (.Name x p) (e :: es) [] pos] [] cpos) (tE X.K false (mutMO T' f g G gl)) := by
  obtain ⟨f', fd, Fo, hm', hk, hb⟩ := O.ex
  exact PE_mono (pe_bm pa slot hty hm ho (pa_cons (pe_call Fo hr hg hm' hk hb .nil pass0 ha hdb he hpl) pa_nil) hbase hfew hline hs hplain) (mutMO_tr hT)
end
end DL

/-! PL1: tools for the plain laws: what the combinators give. -/
namespace DL
open PySem PySem.Spec PyProof.Rows L2
/-! ### views -/
theorem view_list (ds : List PyData) : T.asList (.lst (ds.map T.fr)) = some ds := frs_map ds
theorem view_lst (ds : List PyData) : T.asLst (.lst (ds.map T.fr)) = some ds := frs_map ds
theorem view_tup (ds : List PyData) : T.asTup (.tup (ds.map T.fr)) = some ds := frs_map ds
theorem erase_frs : ∀ ds : List PyData, T.eraseAll (ds.map T.fr) = some ds
  | [] => rfl
  | d :: ds => by
    show (some d).bind (fun d => (T.eraseAll (ds.map T.fr)).map (d :: ·)) = _
    rw [erase_frs ds]; rfl
theorem erase_lst (ds : List PyData) : T.erase (.lst (ds.map T.fr)) = some (.list ds) := by
  show (T.eraseAll (ds.map T.fr)).map PyData.list = _
  rw [erase_frs]; rfl
/-! ### equality, membership of ints -/
theorem lay_ints : ∀ ns : List Int, PyData.canLayAll0 (ns.map PyData.int) = true
  | [] => rfl
  | n :: ns => by show (true && PyData.canLayAll0 (ns.map PyData.int)) = true; rw [lay_ints ns]; rfl
theorem shaped_ints (ns : List Int) : SeqAt.shaped (.list (ns.map PyData.int)) = true := by
  unfold SeqAt.shaped
  rw [show PyData.canLay0 (.list (ns.map PyData.int)) = true from lay_ints ns]
  rw [show PyData.depth (.list (ns.map PyData.int)) = PyData.depthAll (ns.map PyData.int) + 1 from rfl, depth_ints]
  rfl
theorem shaped_int (n : Int) : SeqAt.shaped (.int n) = true := rfl
theorem eqv_int (i j : Int) : PyData.eqv (.int i) (.int j) = decide (i = j) := by
  show (i == j) = _
  by_cases h : i = j
  · subst h; simp
  · simp [h]
theorem any_eqv (ns : List Int) (n : Int) : ((ns.map PyData.int).any fun z => PyData.eqv z (.int n)) = ns.contains n := by
  induction ns with
  | nil => rfl
  | cons m ns ih =>
    rw [List.map_cons, List.any_cons, ih, eqv_int, List.contains_cons]
    congr 1
    by_cases h : m = n
    · subst h; simp
    · simp [h, Ne.symm h]
theorem isIn_ints (ns : List Int) (n : Int) : isInD (.int n) (ns.map PyData.int) (.list (ns.map PyData.int)) = some (ns.contains n) := by
  unfold isInD
  rw [shaped_int, shaped_ints, any_eqv]
  rfl
theorem mem_ints (ns : List Int) (n : Int) : memT (.fr (.int n)) (.fr (.list (ns.map PyData.int))) = some (ns.contains n) := isIn_ints ns n
theorem memL_ints (ns : List Int) (n : Int) : memT (.fr (.int n)) (.lst ((ns.map PyData.int).map T.fr)) = some (ns.contains n) := by
  show (match T.asLst (.lst ((ns.map PyData.int).map T.fr)) with
    | some ds => (T.fr (.int n)).erase.bind fun d => isInD d ds (.list ds)
    | none => match T.asTup (.lst ((ns.map PyData.int).map T.fr)) with
      | some ds => (T.fr (.int n)).erase.bind fun d => isInD d ds (.tuple ds)
      | none => none) = _
  rw [view_lst]
  exact isIn_ints ns n
/-! ### indices -/
theorem ixN_nat {n i : Nat} (h : i < n) : ixN n (i : Int) = some i := by
  unfold ixN
  rw [if_pos (by omega), if_pos (by omega)]
  rfl
theorem ixN_last {n : Nat} (h : 0 < n) : ixN n (-1) = some (n - 1) := by
  unfold ixN
  rw [if_neg (by omega), if_pos (by omega)]
  congr 1
  omega
theorem atI_at {ds : List PyData} {i : Nat} (h : i < ds.length) : atI ds (i : Int) = some ds[i] := by
  unfold atI
  rw [ixN_nat h]
  exact List.getElem?_eq_getElem h
/-! ### loops -/
theorem lcLoop_pure {vs : List Nat} {m : GM} {c : M Bool} {e : M R} {p : PyData → Bool} {g : PyData → PyData} : ∀ {ds : List PyData} {ρ : MS}
    (h : ∀ d ∈ ds, ∃ ρ1, m d (wipeM vs ρ) = some ρ1 ∧ c ρ1 = some (p d, ρ1) ∧ (p d = true → fz e ρ1 = some (g d, ρ1)) ∧ wipeM vs ρ1 = wipeM vs ρ),
    ∃ ρ', lcLoop vs m c e ds ρ = some ((ds.filter p).map g, ρ') ∧ wipeM vs ρ' = wipeM vs ρ
  | [], ρ, _ => ⟨ρ, rfl, rfl⟩
  | d :: ds, ρ, h => by
    obtain ⟨ρ1, h1, h2, h3, h4⟩ := h d List.mem_cons_self
    obtain ⟨ρ', a, b⟩ := lcLoop_pure (ds := ds) (ρ := ρ1) (p := p) (g := g) (m := m) (c := c) (e := e) (vs := vs) fun x hx => by rw [h4]; exact h x (List.mem_cons_of_mem _ hx)
    have e0 : lcLoop vs m c e (d :: ds) ρ = (m d (wipeM vs ρ)).bind fun ρ1 => (c ρ1).bind fun x => if x.1 then (fz e x.2).bind fun y => (lcLoop vs m c e ds y.2).map fun z => (y.1 :: z.1, z.2) else lcLoop vs m c e ds x.2 := rfl
    refine ⟨ρ', ?_, b.trans h4⟩
    rw [e0, h1, Option.bind_some, h2, Option.bind_some]
    cases hp : p d with
    | true =>
      rw [if_pos rfl, h3 hp, Option.bind_some, a, List.filter_cons_of_pos hp]
      rfl
    | false =>
      rw [if_neg Bool.false_ne_true, a, List.filter_cons_of_neg (by rw [hp]; exact Bool.false_ne_true)]
theorem loopM_inv {m : GM} {n : M Fl} {ds : List PyData} (S : Nat → MS → Prop) (step : ∀ i ρ (h : i < ds.length), S i ρ → ∃ ρ1 ρ2, m ds[i] ρ = some ρ1 ∧ (n ρ1 = some (.nx, ρ2) ∨ n ρ1 = some (.ct, ρ2)) ∧ S (i + 1) ρ2) :
    ∀ ρ, S 0 ρ → ∃ ρ', loopM m n ds ρ = some (.nx, ρ') ∧ S ds.length ρ' := by
  have go : ∀ k i ρ, i + k = ds.length → S i ρ → ∃ ρ', loopM m n (ds.drop i) ρ = some (.nx, ρ') ∧ S ds.length ρ' := fun k => by
    induction k with
    | zero =>
      intro i ρ hi hs
      have : i = ds.length := by omega
      subst this
      rw [List.drop_length]
      exact ⟨ρ, rfl, hs⟩
    | succ k ih =>
      intro i ρ hi hs
      have hlt : i < ds.length := by omega
      obtain ⟨ρ1, ρ2, h1, h2, h3⟩ := step i ρ hlt hs
      obtain ⟨ρ', a, b⟩ := ih (i + 1) ρ2 (by omega) h3
      refine ⟨ρ', ?_, b⟩
      rw [List.drop_eq_getElem_cons hlt]
      have e0 : loopM m n (ds[i] :: ds.drop (i + 1)) ρ = (m ds[i] ρ).bind fun ρ1 => (n ρ1).bind fun x => match x.1 with
        | .nx => loopM m n (ds.drop (i + 1)) x.2
        | .ct => loopM m n (ds.drop (i + 1)) x.2
        | .bk => some (.nx, x.2)
        | .rt r => some (.rt r, x.2) := rfl
      rw [e0, h1, Option.bind_some]
      rcases h2 with h2 | h2
      · rw [h2, Option.bind_some]; exact a
      · rw [h2, Option.bind_some]; exact a
  intro ρ hs
  exact go ds.length 0 ρ (by omega) hs

theorem lcM_pure {src : Src} {vs : List Nat} {m : GM} {c : M Bool} {e : M R} {ρ ρ1 ρ3 : MS} {ds : List PyData} {hd : Option Nat} (p : PyData → Bool) (g : PyData → PyData) (hs : src ρ = some ((ds, hd), ρ1)) (hl : ds.length ≤ sizeLine)
    (h : ∀ d ∈ ds, ∃ ρ2, m d (wipeM vs (hideM hd ρ1)) = some ρ2 ∧ c ρ2 = some (p d, ρ2) ∧ (p d = true → fz e ρ2 = some (g d, ρ2)) ∧ wipeM vs ρ2 = wipeM vs (hideM hd ρ1))
    (hp : (vs.all fun v => plainSl (hideM hd ρ1)[v]?) = true) (hb : unhide hd ρ1 (giveBack vs (hideM hd ρ1) (wipeM vs (hideM hd ρ1))) = some ρ3) :
    lcM src vs m c e ρ = some (.val (.lst (((ds.filter p).map g).map T.fr)), ρ3) := by
  obtain ⟨ρ', a, b⟩ := lcLoop_pure h
  have e0 : lcM src vs m c e ρ = (src ρ).bind fun x => if ((vs.all fun v => plainSl (hideM x.1.2 x.2)[v]?) && lineOk x.1.1) = true then
    (lcLoop vs m c e x.1.1 (hideM x.1.2 x.2)).bind fun z => (unhide x.1.2 x.2 (giveBack vs (hideM x.1.2 x.2) (wipeM vs z.2))).map fun ρ3 => (R.val (.lst (z.1.map T.fr)), ρ3) else none := rfl
  rw [e0, hs, Option.bind_some]
  show (if ((vs.all fun v => plainSl (hideM hd ρ1)[v]?) && lineOk ds) = true then
    (lcLoop vs m c e ds (hideM hd ρ1)).bind fun z => (unhide hd ρ1 (giveBack vs (hideM hd ρ1) (wipeM vs z.2))).map fun ρ3 => (R.val (.lst (z.1.map T.fr)), ρ3) else none) = _
  rw [hp, show lineOk ds = true from decide_eq_true hl, if_pos (show (true && true) = true from rfl), a, Option.bind_some]
  show (unhide hd ρ1 (giveBack vs (hideM hd ρ1) (wipeM vs ρ'))).map _ = _
  rw [b, hb]
  rfl
theorem eFn_eq {G : Fn} {gs : M (List PyData)} {ρ ρ' : MS} {ds : List PyData} {z : T × MS} (h : gs ρ = some (ds, ρ')) (hg : G (ds.map ofr) = some z) : eFn G gs ρ = some (.val z.1, ρ') := by
  have e0 : eFn G gs ρ = (gs ρ).bind fun x => (G (x.1.map ofr)).map fun z => (R.val z.1, x.2) := rfl
  rw [e0, h, Option.bind_some, hg]
  rfl
theorem un_eq {f : T → Option T} {g : M R} {ρ ρ' : MS} {x : R} {t r : T} (h : g ρ = some (x, ρ')) (hl : look ρ' x = some t) (hf : f t = some r) : un f g ρ = some (.val r, ρ') := by
  have e0 : un f g ρ = (g ρ).bind fun x => (look x.2 x.1).bind fun t => (f t).map fun r => (R.val r, x.2) := rfl
  rw [e0, h, Option.bind_some]
  show (look ρ' x).bind _ = _
  rw [hl, Option.bind_some, hf]
  rfl
theorem bin_eq {q : Bool} {f : T → T → Option T} {ga gb : M R} {ρ ρ1 ρ2 : MS} {x y : R} {t u r : T} (h1 : ga ρ = some (x, ρ1)) (h2 : gb ρ1 = some (y, ρ2)) (w : x.waits q = true) (l1 : look ρ2 x = some t) (l2 : look ρ2 y = some u) (hf : f t u = some r) : bin q f ga gb ρ = some (.val r, ρ2) := by
  have e0 : bin q f ga gb ρ = (ga ρ).bind fun x => (gb x.2).bind fun y => if x.1.waits q = true then (look y.2 x.1).bind fun t => (look y.2 y.1).bind fun u => (f t u).map fun r => (R.val r, y.2) else none := rfl
  rw [e0, h1, Option.bind_some]
  show (gb ρ1).bind _ = _
  rw [h2, Option.bind_some]
  show (if x.waits q = true then (look ρ2 x).bind fun t => (look ρ2 y).bind fun u => (f t u).map fun r => (R.val r, ρ2) else none) = _
  rw [if_pos w, l1, Option.bind_some, l2, Option.bind_some, hf]
  rfl
theorem srcV_eq {v : T → Option (List PyData)} {g : M R} {ρ ρ' : MS} {x : R} {t : T} {ds : List PyData} (h : g ρ = some (x, ρ')) (hl : look ρ' x = some t) (hv : v t = some ds) : srcV v g ρ = some ((ds, hideOf x), ρ') := by
  have e0 : srcV v g ρ = (g ρ).bind fun x => (look x.2 x.1).bind fun t => (v t).map fun ds => ((ds, hideOf x.1), x.2) := rfl
  rw [e0, h, Option.bind_some]
  show (look ρ' x).bind _ = _
  rw [hl, Option.bind_some, hv]
  rfl
theorem bools_any (bs : List Bool) : opAny (.lst ((bs.map PyData.bool).map T.fr)) = some (.fr (.bool (bs.any id))) := by
  unfold opAny
  rw [view_list, Option.bind_some, bools_map]
  rfl
theorem bools_all (bs : List Bool) : opAll (.lst ((bs.map PyData.bool).map T.fr)) = some (.fr (.bool (bs.all id))) := by
  unfold opAll
  rw [view_list, Option.bind_some, bools_map]
  rfl

theorem vOr_eq {c g : M R} {ρ ρ1 : MS} {x : R} {b : Bool} {z : Option (R × MS)} (h : c ρ = some (x, ρ1)) (hl : look ρ1 x = some (.fr (.bool b))) (hz : (if b = true then some (.val (.fr (.bool true)), ρ1) else g ρ1) = z) : vOr c g ρ = z := by
  have e0 : vOr c g ρ = (cOf c ρ).bind fun x => if x.1 then some (R.val (.fr (.bool true)), x.2) else g x.2 := rfl
  have e1 : cOf c ρ = (c ρ).bind fun x => (look x.2 x.1).bind fun t => t.asBool.map fun b => (b, x.2) := rfl
  rw [e0, e1, h, Option.bind_some]
  show ((look ρ1 x).bind _).bind _ = _
  rw [hl]
  exact hz
theorem vAnd_eq {c g : M R} {ρ ρ1 : MS} {x : R} {b : Bool} {z : Option (R × MS)} (h : c ρ = some (x, ρ1)) (hl : look ρ1 x = some (.fr (.bool b))) (hz : (if b = true then g ρ1 else some (.val (.fr (.bool false)), ρ1)) = z) : vAnd c g ρ = z := by
  have e0 : vAnd c g ρ = (cOf c ρ).bind fun x => if x.1 then g x.2 else some (R.val (.fr (.bool false)), x.2) := rfl
  have e1 : cOf c ρ = (c ρ).bind fun x => (look x.2 x.1).bind fun t => t.asBool.map fun b => (b, x.2) := rfl
  rw [e0, e1, h, Option.bind_some]
  show ((look ρ1 x).bind _).bind _ = _
  rw [hl]
  exact hz
theorem cOf_eq {g : M R} {ρ ρ1 : MS} {x : R} {b : Bool} (h : g ρ = some (x, ρ1)) (hl : look ρ1 x = some (.fr (.bool b))) : cOf g ρ = some (b, ρ1) := by
  have e1 : cOf g ρ = (g ρ).bind fun x => (look x.2 x.1).bind fun t => t.asBool.map fun b => (b, x.2) := rfl
  rw [e1, h, Option.bind_some]
  show ((look ρ1 x).bind _) = _
  rw [hl]
  rfl
theorem cTru_eq {g : M R} {ρ ρ1 : MS} {x : R} {t : T} {b : Bool} (h : g ρ = some (x, ρ1)) (hl : look ρ1 x = some t) (ht : truth t = some b) : cTru g ρ = some (b, ρ1) := by
  have e1 : cTru g ρ = (g ρ).bind fun x => (look x.2 x.1).bind fun t => (truth t).map fun b => (b, x.2) := rfl
  rw [e1, h, Option.bind_some]
  show ((look ρ1 x).bind _) = _
  rw [hl, Option.bind_some, ht]
  rfl
/-- a body that returns a frozen thing -/
theorem runFn_ret {n nsl : Nat} {m : M Fl} {ps ρ : MS} {d : PyData} (h1 : ps.length = n ∧ ps.all argOk = true) (h : m (ps ++ List.replicate (nsl - n) .non) = some (.rt (.val (.fr d)), ρ)) : runFn n nsl m ps = some (.fr d, pinsOf n ρ) := by
  have e0 : runFn n nsl m ps = if ps.length = n ∧ ps.all argOk = true then (m (ps ++ List.replicate (nsl - n) .non)).bind fun x => exitM n x.1 x.2 else none := rfl
  rw [e0, if_pos h1, h]
  rfl
theorem runFn_val {n nsl : Nat} {m : M Fl} {ps ρ : MS} {t : T} (h1 : ps.length = n ∧ ps.all argOk = true) (h : m (ps ++ List.replicate (nsl - n) .non) = some (.rt (.val t), ρ)) : runFn n nsl m ps = some (t, pinsOf n ρ) := by
  have e0 : runFn n nsl m ps = if ps.length = n ∧ ps.all argOk = true then (m (ps ++ List.replicate (nsl - n) .non)).bind fun x => exitM n x.1 x.2 else none := rfl
  rw [e0, if_pos h1, h]
  rfl
theorem sSeq_eq {m n : M Fl} {ρ ρ1 : MS} {z : Option (Fl × MS)} (h : m ρ = some (.nx, ρ1)) (hz : n ρ1 = z) : sSeq m n ρ = z := by
  have e0 : sSeq m n ρ = (m ρ).bind fun x => match x.1 with | .nx => n x.2 | fl => some (fl, x.2) := rfl
  rw [e0, h, Option.bind_some]
  exact hz
theorem sRet_eq {g : M R} {ρ ρ1 : MS} {x : R} (h : g ρ = some (x, ρ1)) : sRet g ρ = some (.rt x, ρ1) := by
  have e0 : sRet g ρ = (g ρ).map fun x => (.rt x.1, x.2) := rfl
  rw [e0, h]; rfl
theorem sIf_eq {c : M Bool} {m n : M Fl} {ρ ρ1 : MS} {b : Bool} {z : Option (Fl × MS)} (h : c ρ = some (b, ρ1)) (hz : (if b = true then m ρ1 else n ρ1) = z) : sIf c m n ρ = z := by
  have e0 : sIf c m n ρ = (c ρ).bind fun x => if x.1 then m x.2 else n x.2 := rfl
  rw [e0, h, Option.bind_some]
  exact hz
theorem sSet_val {i : Nat} {g : M R} {ρ ρ1 : MS} {t : T} (h : g ρ = some (.val t, ρ1)) (hf : freeAt ρ1 i = true) : sSet i g ρ = some (.nx, ρ1.set i (.own t)) := by
  have e0 : sSet i g ρ = (g ρ).bind fun x => (asg i x.1 x.2).map fun ρ' => (.nx, ρ') := rfl
  rw [e0, h, Option.bind_some]
  show (if freeAt ρ1 i = true then some (ρ1.set i (.own t)) else none).map _ = _
  rw [if_pos hf]; rfl
end DL

/-! PL2: more of what the combinators give: items, stores, appends, walks. -/
namespace DL
open PySem PySem.Spec PyProof.Rows L2
theorem waits0 {q : Bool} {i : Nat} : (R.bor i []).waits q = true := by
  show (q || true) = true
  simp
theorem opIx_list {ds : List PyData} {k : Nat} (h : k < ds.length) : opIx (.fr (.list ds)) (.fr (.int (k : Int))) = some (.fr ds[k]) := by
  show ((some (k : Int)).bind fun i => (atI ds i).map T.fr) = _
  rw [Option.bind_some, atI_at h]; rfl
theorem opIx_tup {ds : List PyData} {k : Nat} (h : k < ds.length) : opIx (.fr (.tuple ds)) (.fr (.int (k : Int))) = some (.fr ds[k]) := by
  show ((some (k : Int)).bind fun i => (atI ds i).map T.fr) = _
  rw [Option.bind_some, atI_at h]; rfl
theorem subs_val {q : Bool} {f : T → T → Option T} {ga gb : M R} {ρ ρ1 ρ2 : MS} {t u r : T} {y : R} (h1 : ga ρ = some (.val t, ρ1)) (h2 : gb ρ1 = some (y, ρ2)) (l2 : look ρ2 y = some u) (hf : f t u = some r) : subs q f ga gb ρ = some (.val r, ρ2) := by
  have e0 : subs q f ga gb ρ = (ga ρ).bind fun x => (gb x.2).bind fun y => match x.1 with
    | .bor i p => if (R.bor i p).waits q = true then (look y.2 (.bor i p)).bind fun t => (look y.2 y.1).bind fun u => subsK f y.2 t u i p else none
    | .val t => (look y.2 y.1).bind fun u => (f t u).map fun r => (.val r, y.2) := rfl
  rw [e0, h1, Option.bind_some]
  show (gb ρ1).bind _ = _
  rw [h2, Option.bind_some]
  show (look ρ2 y).bind _ = _
  rw [l2, Option.bind_some, hf]; rfl
theorem subs_own {q : Bool} {f : T → T → Option T} {ga gb : M R} {ρ ρ1 ρ2 : MS} {i : Nat} {ds : List PyData} {y : R} {k : Nat} (h1 : ga ρ = some (.bor i [], ρ1)) (h2 : gb ρ1 = some (y, ρ2)) (l1 : look ρ2 (.bor i []) = some (.lst (ds.map T.fr))) (l2 : look ρ2 y = some (.fr (.int (k : Int)))) (hk : k < ds.length) :
    subs q f ga gb ρ = some (.val (.fr ds[k]), ρ2) := by
  have e0 : subs q f ga gb ρ = (ga ρ).bind fun x => (gb x.2).bind fun y => match x.1 with
    | .bor i p => if (R.bor i p).waits q = true then (look y.2 (.bor i p)).bind fun t => (look y.2 y.1).bind fun u => subsK f y.2 t u i p else none
    | .val t => (look y.2 y.1).bind fun u => (f t u).map fun r => (.val r, y.2) := rfl
  rw [e0, h1, Option.bind_some]
  show (gb ρ1).bind _ = _
  rw [h2, Option.bind_some]
  show (if (R.bor i []).waits q = true then (look ρ2 (.bor i [])).bind fun t => (look ρ2 y).bind fun u => subsK f ρ2 t u i [] else none) = _
  rw [if_pos waits0, l1, Option.bind_some, l2, Option.bind_some]
  show ((((some (k : Int)).bind fun z => ixN (ds.map T.fr).length z).bind fun k => (ds.map T.fr)[k]?.map fun c => ofKid i [] k c).map fun r => (r, ρ2)) = _
  rw [Option.bind_some, List.length_map, ixN_nat hk, Option.bind_some, List.getElem?_map, List.getElem?_eq_getElem hk]
  rfl
theorem subs_own' {q : Bool} {f : T → T → Option T} {ga gb : M R} {ρ ρ1 ρ2 : MS} {i : Nat} {ds : List PyData} {y : R} {k : Nat} {z : Int} (h1 : ga ρ = some (.bor i [], ρ1)) (h2 : gb ρ1 = some (y, ρ2)) (l1 : look ρ2 (.bor i []) = some (.lst (ds.map T.fr))) (l2 : look ρ2 y = some (.fr (.int z))) (hz : ixN ds.length z = some k) (hk : k < ds.length) :
    subs q f ga gb ρ = some (.val (.fr ds[k]), ρ2) := by
  have e0 : subs q f ga gb ρ = (ga ρ).bind fun x => (gb x.2).bind fun y => match x.1 with
    | .bor i p => if (R.bor i p).waits q = true then (look y.2 (.bor i p)).bind fun t => (look y.2 y.1).bind fun u => subsK f y.2 t u i p else none
    | .val t => (look y.2 y.1).bind fun u => (f t u).map fun r => (.val r, y.2) := rfl
  rw [e0, h1, Option.bind_some]
  show (gb ρ1).bind _ = _
  rw [h2, Option.bind_some]
  show (if (R.bor i []).waits q = true then (look ρ2 (.bor i [])).bind fun t => (look ρ2 y).bind fun u => subsK f ρ2 t u i [] else none) = _
  rw [if_pos waits0, l1, Option.bind_some, l2, Option.bind_some]
  show ((((some z).bind fun z => ixN (ds.map T.fr).length z).bind fun k => (ds.map T.fr)[k]?.map fun c => ofKid i [] k c).map fun r => (r, ρ2)) = _
  rw [Option.bind_some, List.length_map, hz, Option.bind_some, List.getElem?_map, List.getElem?_eq_getElem hk]
  rfl
def mxD (d : PyData) : List Int → PyData
  | [] => d
  | n :: r => .int (r.foldl max n)
theorem maxM_eq {q : Bool} {ga gb : M R} {ρ ρ1 ρ2 : MS} {x : R} {d : PyData} {ns : List Int} (h1 : ga ρ = some (x, ρ1)) (h2 : gb ρ1 = some (.val (.fr d), ρ2)) (w : x.waits q = true) (l1 : look ρ2 x = some (.lst ((ns.map PyData.int).map T.fr))) :
    maxM q ga gb ρ = some (.val (.fr (mxD d ns)), ρ2) := by
  have e0 : maxM q ga gb ρ = (ga ρ).bind fun x => (gb x.2).bind fun y => if x.1.waits q = true then (look y.2 x.1).bind fun t => (look y.2 y.1).bind fun u => t.asLst.bind fun ds => (intsD ds).bind fun ns => match ns, u with
    | [], .fr d => some (R.val (.fr d), y.2)
    | n :: r, _ => some (.val (.fr (.int (r.foldl max n))), y.2)
    | _, _ => none else none := rfl
  rw [e0, h1, Option.bind_some]
  show (gb ρ1).bind _ = _
  rw [h2, Option.bind_some]
  show (if x.waits q = true then (look ρ2 x).bind _ else none) = _
  rw [if_pos w, l1, Option.bind_some]
  show ((some (T.fr d)).bind fun u => (T.asLst (.lst ((ns.map PyData.int).map T.fr))).bind _) = _
  rw [Option.bind_some, view_lst, Option.bind_some, ints_map, Option.bind_some]
  cases ns <;> rfl
theorem append_eq {g : M R} {gs : M (List T)} {q : Bool} {ρ ρ1 ρ2 : MS} {i : Nat} {s : Sl} {ts : List T} {t : T} {t0 : T} (h1 : g ρ = some (.bor i [], ρ1)) (l0 : look ρ1 (.bor i []) = some t0) (ty : tyT "list" t0 = true) (h2 : gs ρ1 = some ([t], ρ2)) (hs : ρ2[i]? = some s) (ht : s.tree? = some (.lst ts)) (hl : ts.length < sizeLine) :
    mutM "list" q lAppend g gs ρ = some (.val (.fr .none), ρ2.set i (s.with (.lst (ts ++ [t])))) := by
  have e0 : mutM "list" q lAppend g gs ρ = (g ρ).bind fun x => (look x.2 x.1).bind fun t0 => if tyT "list" t0 = true then
    (gs x.2).bind fun y => match x.1 with
      | .bor i p => if (R.bor i p).waits q = true then y.2[i]?.bind fun s => s.tree?.bind fun t => (t.get p).bind fun u => (lAppend u y.1).map fun r => (.val r.2, y.2.set i (s.with (t.put p r.1))) else none
      | .val _ => none else none := rfl
  rw [e0, h1, Option.bind_some]
  show (look ρ1 (.bor i [])).bind _ = _
  rw [l0, Option.bind_some, if_pos ty]
  show (gs ρ1).bind _ = _
  rw [h2, Option.bind_some]
  show (if (R.bor i []).waits q = true then ρ2[i]?.bind fun s => s.tree?.bind fun t' => (t'.get []).bind fun u => (lAppend u [t]).map fun r => (R.val r.2, ρ2.set i (s.with (t'.put [] r.1))) else none) = _
  rw [if_pos waits0, hs, Option.bind_some, ht, Option.bind_some]
  show (some (T.lst ts)).bind _ = _
  rw [Option.bind_some]
  show (if ts.length < sizeLine then some (T.lst (ts ++ [t]), T.fr .none) else none).map _ = _
  rw [if_pos hl]
  rfl
theorem sExpr_eq {g : M R} {ρ ρ1 : MS} {x : R} (h : g ρ = some (x, ρ1)) : sExpr g ρ = some (.nx, ρ1) := by
  have e0 : sExpr g ρ = (g ρ).map fun x => (.nx, x.2) := rfl
  rw [e0, h]; rfl
theorem bConsF_one {g : M R} {ρ ρ1 : MS} {d : PyData} (h : g ρ = some (.val (.fr d), ρ1)) : bConsF g bNil ρ = some ([.fr d], ρ1) := by
  have e0 : bConsF g bNil ρ = (fz g ρ).bind fun x => (bNil x.2).map fun y => (.fr x.1 :: y.1, y.2) := rfl
  have e1 : fz g ρ = (g ρ).bind fun x => frz x.1 x.2 := rfl
  rw [e0, e1, h]; rfl
/-- a walk that ends by itself -/
theorem sFor_inv {src : Src} {m : GM} {n : M Fl} {ρ ρ1 : MS} {ds : List PyData} {hd : Option Nat} (hs : src ρ = some ((ds, hd), ρ1)) (S : Nat → MS → Prop) (h0 : S 0 (hideM hd ρ1))
    (step : ∀ i ρ (h : i < ds.length), S i ρ → ∃ ρ1 ρ2, m ds[i] ρ = some ρ1 ∧ (n ρ1 = some (.nx, ρ2) ∨ n ρ1 = some (.ct, ρ2)) ∧ S (i + 1) ρ2)
    (hb : ∀ ρ', S ds.length ρ' → ∃ ρ3, unhide hd ρ1 ρ' = some ρ3) :
    ∃ ρ' ρ3, S ds.length ρ' ∧ unhide hd ρ1 ρ' = some ρ3 ∧ sFor src m n ρ = some (.nx, ρ3) := by
  obtain ⟨ρ', a, b⟩ := loopM_inv S step (hideM hd ρ1) h0
  obtain ⟨ρ3, e3⟩ := hb ρ' b
  refine ⟨ρ', ρ3, b, e3, ?_⟩
  have e0 : sFor src m n ρ = (src ρ).bind fun x => (loopM m n x.1.1 (hideM x.1.2 x.2)).bind fun y => (unhide x.1.2 x.2 y.2).map fun ρ3 => (y.1, ρ3) := rfl
  rw [e0, hs, Option.bind_some]
  show (loopM m n ds (hideM hd ρ1)).bind _ = _
  rw [a, Option.bind_some]
  show (unhide hd ρ1 ρ').map _ = _
  rw [e3]; rfl
theorem srcR_eq {f : List PyData → Option (List PyData)} {gs : M (List PyData)} {ρ ρ1 : MS} {ds zs : List PyData} (h : gs ρ = some (ds, ρ1)) (hf : f ds = some zs) : srcR f gs ρ = some ((zs, none), ρ1) := by
  have e0 : srcR f gs ρ = (gs ρ).bind fun x => (f x.1).map fun ds => ((ds, none), x.2) := rfl
  rw [e0, h, Option.bind_some]
  show (f ds).map _ = _
  rw [hf]; rfl
theorem bnd_small {i : Int} (h1 : -1000 ≤ i) (h2 : i ≤ 1000000) : bnd i = true := by
  unfold bnd
  rw [decide_eq_true (by omega), decide_eq_true (by omega)]
  rfl
theorem rng1_nat {n : Nat} (h : n ≤ 1000000) : rng1 [.int (n : Int)] = some ((List.range n).map fun (k : Nat) => PyData.int (k : Int)) := by
  show (if bnd (n : Int) = true then some (rngD 0 (n : Int).toNat) else none) = _
  rw [if_pos (bnd_small (by omega) (by omega))]
  unfold rngD
  congr 1
  refine List.map_congr_left fun k _ => ?_
  rw [Int.zero_add]
theorem aCons_eq {g : M R} {gs : M (List PyData)} {ρ ρ1 ρ2 ρ3 : MS} {x : R} {d : PyData} {ds : List PyData} (h : g ρ = some (x, ρ1)) (hf : frz x ρ1 = some (d, ρ2)) (h2 : gs ρ2 = some (ds, ρ3)) : aCons g gs ρ = some (d :: ds, ρ3) := by
  have e0 : aCons g gs ρ = (fz g ρ).bind fun x => (gs x.2).map fun y => (x.1 :: y.1, y.2) := rfl
  have e1 : fz g ρ = (g ρ).bind fun x => frz x.1 x.2 := rfl
  rw [e0, e1, h, Option.bind_some, hf, Option.bind_some]
  show (gs ρ2).map _ = _
  rw [h2]; rfl
theorem fz_eq {g : M R} {ρ ρ1 ρ2 : MS} {x : R} {d : PyData} (h : g ρ = some (x, ρ1)) (hf : frz x ρ1 = some (d, ρ2)) : fz g ρ = some (d, ρ2) := by
  have e1 : fz g ρ = (g ρ).bind fun x => frz x.1 x.2 := rfl
  rw [e1, h]; exact hf

def natD (xs : List Nat) : List PyData := xs.map fun (k : Nat) => PyData.int (k : Int)
theorem natD_int (xs : List Nat) : natD xs = (xs.map fun (k : Nat) => (k : Int)).map PyData.int := by
  unfold natD
  rw [List.map_map]; rfl
theorem natD_len (xs : List Nat) : (natD xs).length = xs.length := List.length_map _
theorem natD_get {xs : List Nat} {k : Nat} (h : k < (natD xs).length) : (natD xs)[k] = .int (xs[k]'(by rw [natD_len] at h; exact h) : Nat) := by
  exact (List.getElem_of_eq (show natD xs = xs.map fun (k : Nat) => PyData.int (k : Int) from rfl) h).trans (List.getElem_map _)
def pN (p : Nat → Bool) : PyData → Bool
  | .int z => p z.toNat
  | _ => false
def gN (g : Nat → PyData) : PyData → PyData
  | .int z => g z.toNat
  | d => d
theorem natD_filter (xs : List Nat) (p : Nat → Bool) (g : Nat → PyData) : ((natD xs).filter (pN p)).map (gN g) = (xs.filter p).map g := by
  unfold natD
  rw [List.filter_map, List.map_map]
  rfl
theorem lcM_nat {src : Src} {vs : List Nat} {m : GM} {c : M Bool} {e : M R} {ρ ρ1 ρ3 : MS} {hd : Option Nat} (xs : List Nat) (p : Nat → Bool) (g : Nat → PyData) (hs : src ρ = some ((natD xs, hd), ρ1)) (hl : xs.length ≤ sizeLine)
    (h : ∀ k ∈ xs, ∃ ρ2, m (.int (k : Nat)) (wipeM vs (hideM hd ρ1)) = some ρ2 ∧ c ρ2 = some (p k, ρ2) ∧ (p k = true → fz e ρ2 = some (g k, ρ2)) ∧ wipeM vs ρ2 = wipeM vs (hideM hd ρ1))
    (hp : (vs.all fun v => plainSl (hideM hd ρ1)[v]?) = true) (hb : unhide hd ρ1 (giveBack vs (hideM hd ρ1) (wipeM vs (hideM hd ρ1))) = some ρ3) :
    lcM src vs m c e ρ = some (.val (.lst (((xs.filter p).map g).map T.fr)), ρ3) := by
  rw [← natD_filter]
  refine lcM_pure (pN p) (gN g) hs (by rw [natD_len]; exact hl) (fun d hd' => ?_) hp hb
  obtain ⟨k, hk, rfl⟩ := List.mem_map.mp hd'
  exact h k hk
theorem foldl_max (xs : List Nat) : ∀ a : Nat, (xs.map fun (k : Nat) => (k : Int)).foldl max (a : Int) = ((max a (xs.foldr max 0) : Nat) : Int) := by
  induction xs with
  | nil => intro a; simp
  | cons x xs ih =>
    intro a
    rw [List.map_cons, List.foldl_cons]
    have : max (a : Int) (x : Int) = ((max a x : Nat) : Int) := by omega
    rw [this, ih]
    show _ = ((max a (max x (xs.foldr max 0)) : Nat) : Int)
    congr 1
    omega
theorem mxD_nat (xs : List Nat) (d : PyData) : mxD d (xs.map fun (k : Nat) => (k : Int)) = match xs with | [] => d | _ :: _ => .int ((xs.foldr max 0 : Nat) : Int) := by
  cases xs with
  | nil => rfl
  | cons x xs =>
    show PyData.int ((xs.map fun (k : Nat) => (k : Int)).foldl max (x : Int)) = _
    rw [foldl_max]
    rfl
theorem mxD_nat0 (xs : List Nat) : mxD (.int 0) (xs.map fun (k : Nat) => (k : Int)) = .int ((xs.foldr max 0 : Nat) : Int) := by
  rw [mxD_nat]
  cases xs <;> rfl
theorem runFn_bor {n nsl : Nat} {m : M Fl} {ps ρ : MS} {t : T} {i : Nat} (h1 : ps.length = n ∧ ps.all argOk = true) (h : m (ps ++ List.replicate (nsl - n) .non) = some (.rt (.bor i []), ρ)) (hi : ρ[i]? = some (.own t)) :
    runFn n nsl m ps = some (t, pinsOf n (ρ.set i .non)) := by
  have e0 : runFn n nsl m ps = if ps.length = n ∧ ps.all argOk = true then (m (ps ++ List.replicate (nsl - n) .non)).bind fun x => exitM n x.1 x.2 else none := rfl
  rw [e0, if_pos h1, h, Option.bind_some]
  show (retT (.bor i []) ρ).map _ = _
  have e1 : retT (.bor i []) ρ = match ([] : Path), ρ[i]? with
    | [], some (.own t) => some (t, ρ.set i .non)
    | p, _ => (frz (.bor i p) ρ).map fun y => (.fr y.1, y.2) := rfl
  rw [e1, hi]
  rfl
/-- a slot that may be stored to: empty, or with frozen data -/
def Fre (s : Sl) : Prop := s = .non ∨ ∃ d, s = .own (.fr d)
end DL

namespace K71
open PySem PySem.Spec PyProof.Rows L2 DL
def topS (i : Nat) : Stmt := PySem.Challenge.pw_steadywires_k71_whole_judges_of_steps.main.body.getD i (.Pass ⟨0, 0, 0, 0⟩)
structure Fx (K : PySem.W.Frag) (mg : Str → Option Value) : Prop where
  d_is_whole : Df K mg "is_whole" (topS 1) ["value"]
  d_are_wholes : Df K mg "are_wholes" (topS 2) ["value"]
  d_are_between : Df K mg "are_between" (topS 3) ["value", "least", "most"]
  d_is_rising : Df K mg "is_rising" (topS 4) ["numbers"]
  d_are_lists_of_wholes : Df K mg "are_lists_of_wholes" (topS 5) ["value"]
  d_slots_of : Df K mg "slots_of" (topS 7) ["row"]
  d_do_share : Df K mg "do_share" (topS 9) ["one", "other"]
  d_reads_for : Df K mg "reads_for" (topS 11) ["one", "other"]
  d_hang_together : Df K mg "hang_together" (topS 12) ["one", "other"]
  d_shows_chain : Df K mg "shows_chain" (topS 13) ["core", "chain"]
  d_shows_steps : Df K mg "shows_steps" (topS 14) ["core", "steps"]
  d__law_feed : Df K mg "_law_feed" (topS 16) ["script"]
  d__law_draw : Df K mg "_law_draw" (topS 17) ["feed", "many"]
  d__law_whole : Df K mg "_law_whole" (topS 18) ["value"]
  d__law_slots : Df K mg "_law_slots" (topS 19) ["row"]
  d__law_share : Df K mg "_law_share" (topS 20) ["one", "other"]
  d__law_hang : Df K mg "_law_hang" (topS 21) ["one", "other"]
  d__law_levels : Df K mg "_law_levels" (topS 22) ["rows"]
  d__law_copy : Df K mg "_law_copy" (topS 23) ["core"]
  d__law_same : Df K mg "_law_same" (topS 24) ["actual", "due"]
  d__law_core : Df K mg "_law_core" (topS 25) ["feed", "ins", "wide", "most"]
  d__law_are_rows : Df K mg "_law_are_rows" (topS 26) ["many", "value"]
  d__law_is_chain : Df K mg "_law_is_chain" (topS 27) ["rows", "value"]
  d__law_are_steps : Df K mg "_law_are_steps" (topS 28) ["rows", "value"]
  d__law_bent : Df K mg "_law_bent" (topS 29) ["feed", "many", "value"]
  d__law_moved_row : Df K mg "_law_moved_row" (topS 30) ["feed", "steps"]
  d__law_right : Df K mg "_law_right" (topS 31) ["feed", "core"]
  d_law : Df K mg "law" (topS 32) ["script"]
  z_abs : mg "abs" = none
  z_all : mg "all" = none
  z_any : mg "any" = none
  z_bool : mg "bool" = none
  z_enumerate : mg "enumerate" = none
  z_int : mg "int" = none
  z_isinstance : mg "isinstance" = none
  z_len : mg "len" = none
  z_list : mg "list" = none
  z_max : mg "max" = none
  z_range : mg "range" = none
  z_repr : mg "repr" = none
  z_sorted : mg "sorted" = none
  z_str : mg "str" = none
  z_tuple : mg "tuple" = none
section
variable {P : Program} {w : World} {K : PySem.W.Frag} {mg : Str → Option Value} {base : Heap}
/-! is_whole -/
abbrev s_is_whole : Stmt := topS 1
theorem sc_is_whole : FnScope ["value"] ["value"] (defScope s_is_whole) := ⟨rfl, rfl, rfl, by decide +kernel, rfl, by decide +kernel, by decide +kernel⟩
def m_is_whole : M Fl := sRet (vAnd (un (opIsi "int") (eVar 0)) (vNot (cOf (un (opIsi "bool") (eVar 0)))))
def f_is_whole : Fn := runFn 1 1 m_is_whole
theorem ok_is_whole (W : Fx K mg) {k : Nat} (hk : 1 ≤ k) : OkF P w K mg base "is_whole" ["value"] k (spD K true f_is_whole) := by
  have Z : OkF P w K mg base "is_whole" ["value"] (0 + 1) (spD K true (runFn (List.length (α := Str) ["value"]) (List.length (α := Str) ["value"]) m_is_whole)) := okF W.d_is_whole sc_is_whole fun f cdv A outer s H E hr => by
    have h64 := hr.units
    have h65 := u65 hr
    have h1 := hu_of hr
    exact PSs_as (ss_one (s_ret (v_and (e_isi (e_var (pv 0)) (pe_bltn (by rfl) W.z_int bt_int rfl) (by rfl) W.z_isinstance bt_isinstance (by decide)) (v_one (v_not (e_isi (e_var (pv 0)) (pe_bltn (by rfl) W.z_bool bt_bool rfl) (by rfl) W.z_isinstance bt_isinstance (by decide))))))) rfl rfl
  exact Z.mono hk
/-! are_wholes -/
abbrev s_are_wholes : Stmt := topS 2
theorem sc_are_wholes : FnScope ["value", "number"] ["value"] (defScope s_are_wholes) := ⟨rfl, rfl, rfl, by decide +kernel, rfl, by decide +kernel, by decide +kernel⟩
def m_are_wholes : M Fl := sSeq (sIf (cNot (cTru (un (opIsi "list") (eVar 0)))) (sRet (eC (.bool false))) (sNx))
  (sRet (un opAll (lcM (srcV T.asList (eVar 0)) [1] (gNm 1) (cYes) (eFn f_is_whole (aCons (eVar 1) (aNil))))))
def f_are_wholes : Fn := runFn 1 2 m_are_wholes
theorem ok_are_wholes (W : Fx K mg) {k : Nat} (hk : 2 ≤ k) : OkF P w K mg base "are_wholes" ["value"] k (spD K true f_are_wholes) := by
  have Z : OkF P w K mg base "are_wholes" ["value"] (1 + 1) (spD K true (runFn (List.length (α := Str) ["value"]) (List.length (α := Str) ["value", "number"]) m_are_wholes)) := okF W.d_are_wholes sc_are_wholes fun f cdv A outer s H E hr => by
    have h64 := hr.units
    have h65 := u65 hr
    have h1 := hu_of hr
    exact PSs_as (ss_cons (s_if (t_not (t_truth (e_isi (e_var (pv 0)) (pe_bltn (by rfl) W.z_list bt_list rfl) (by rfl) W.z_isinstance bt_isinstance (by decide)))) (ss_one (s_ret (e_c pe_bl fun F => .bl _))) ss_nil)
  (ss_one (s_ret (e_callB1 (r_all rfl) (by rfl) W.z_all bt_all (e_lc rfl sc_are_wholes.nd (i_list (e_var (pv 0))) (blkOk_by (N := ["value", "number"]) (own := [("number", 1)]) (sc := defScope s_are_wholes) (by decide +kernel)) (fun _ _ _ _ _ => (g_name (i := 1) sc_are_wholes.nd rfl (.inl rfl))) (fun _ _ _ _ _ => ts_nil) (fun _ _ _ _ _ => (f_call (ok_is_whole (P := P) (w := w) (base := base) W (by omega)) hr (by rfl) (a_cons (e_var (pv 1)) a_nil))) (by decide)))))) rfl rfl
  exact Z.mono hk
/-! are_between -/
abbrev s_are_between : Stmt := topS 3
theorem sc_are_between : FnScope ["value", "least", "most", "number"] ["value", "least", "most"] (defScope s_are_between) := ⟨rfl, rfl, rfl, by decide +kernel, rfl, by decide +kernel, by decide +kernel⟩
def m_are_between : M Fl := sSeq (sIf (cNot (cTru (eFnL f_are_wholes (lHere true (eVar 0) (aNil))))) (sRet (eC (.bool false))) (sNx))
  (sRet (un opAll (lcM (srcV T.asList (eVar 0)) [3] (gNm 3) (cYes) (chainM true true opLe opLe (eVar 1) (eVar 3) (eVar 2)))))
def f_are_between : Fn := runFn 3 4 m_are_between
theorem ok_are_between (W : Fx K mg) {k : Nat} (hk : 3 ≤ k) : OkF P w K mg base "are_between" ["value", "least", "most"] k (spD K true f_are_between) := by
  have Z : OkF P w K mg base "are_between" ["value", "least", "most"] (2 + 1) (spD K true (runFn (List.length (α := Str) ["value", "least", "most"]) (List.length (α := Str) ["value", "least", "most", "number"]) m_are_between)) := okF W.d_are_between sc_are_between fun f cdv A outer s H E hr => by
    have h64 := hr.units
    have h65 := u65 hr
    have h1 := hu_of hr
    exact PSs_as (ss_cons (s_if (t_not (t_truth (f_callL (ok_are_wholes (P := P) (w := w) (base := base) W (by omega)) hr (by rfl) (l_here (e_var (pv 0)) a_nil)))) (ss_one (s_ret (e_c pe_bl fun F => .bl _))) ss_nil)
  (ss_one (s_ret (e_callB1 (r_all rfl) (by rfl) W.z_all bt_all (e_lc rfl sc_are_between.nd (i_list (e_var (pv 0))) (blkOk_by (N := ["value", "least", "most", "number"]) (own := [("number", 3)]) (sc := defScope s_are_between) (by decide +kernel)) (fun _ _ _ _ _ => (g_name (i := 3) sc_are_between.nd rfl (.inl rfl))) (fun _ _ _ _ _ => ts_nil) (fun _ _ _ _ _ => (e_chain r_le r_le (e_var (pv 1)) (e_var (pv 3)) (e_var (pv 2)))) (by decide)))))) rfl rfl
  exact Z.mono hk
/-! is_rising -/
abbrev s_is_rising : Stmt := topS 4
theorem sc_is_rising : FnScope ["numbers", "at"] ["numbers"] (defScope s_is_rising) := ⟨rfl, rfl, rfl, by decide +kernel, rfl, by decide +kernel, by decide +kernel⟩
def m_is_rising : M Fl := sRet (un opAll (lcM (srcR rng2 (aCons (eC (.int 1)) (aCons (un opLen (eVar 0)) (aNil)))) [1] (gNm 1) (cYes) (bin true opLt (subs true opIx (eVar 0) (bin true opSub (eVar 1) (eC (.int 1)))) (subs true opIx (eVar 0) (eVar 1)))))
def f_is_rising : Fn := runFn 1 2 m_is_rising
theorem ok_is_rising (W : Fx K mg) {k : Nat} (hk : 1 ≤ k) : OkF P w K mg base "is_rising" ["numbers"] k (spD K true f_is_rising) := by
  have Z : OkF P w K mg base "is_rising" ["numbers"] (0 + 1) (spD K true (runFn (List.length (α := Str) ["numbers"]) (List.length (α := Str) ["numbers", "at"]) m_is_rising)) := okF W.d_is_rising sc_is_rising fun f cdv A outer s H E hr => by
    have h64 := hr.units
    have h65 := u65 hr
    have h1 := hu_of hr
    exact PSs_as (ss_one (s_ret (e_callB1 (r_all rfl) (by rfl) W.z_all bt_all (e_lc rfl sc_is_rising.nd (i_range2 (by rfl) W.z_range (a_cons (e_c pe_int fun F => .int _) (a_cons (e_callB1 r_len (by rfl) W.z_len bt_len (e_var (pv 0))) a_nil))) (blkOk_by (N := ["numbers", "at"]) (own := [("at", 1)]) (sc := defScope s_is_rising) (by decide +kernel)) (fun _ _ _ _ _ => (g_name (i := 1) sc_is_rising.nd rfl (.inl rfl))) (fun _ _ _ _ _ => ts_nil) (fun _ _ _ _ _ => (e_cmp r_lt (e_subs (r_ix h1) (e_var (pv 0)) (e_op r_sub (e_var (pv 1)) (e_c pe_int fun F => .int _)) fun _ _ => rfl) (e_subs (r_ix h1) (e_var (pv 0)) (e_var (pv 1)) fun _ _ => rfl) (nomark _))) (by decide))))) rfl rfl
  exact Z.mono hk
/-! are_lists_of_wholes -/
abbrev s_are_lists_of_wholes : Stmt := topS 5
theorem sc_are_lists_of_wholes : FnScope ["value", "row"] ["value"] (defScope s_are_lists_of_wholes) := ⟨rfl, rfl, rfl, by decide +kernel, rfl, by decide +kernel, by decide +kernel⟩
def m_are_lists_of_wholes : M Fl := sSeq (sIf (cNot (cTru (un (opIsi "list") (eVar 0)))) (sRet (eC (.bool false))) (sNx))
  (sRet (un opAll (lcM (srcV T.asList (eVar 0)) [1] (gNm 1) (cYes) (eFnL f_are_wholes (lHere true (eVar 1) (aNil))))))
def f_are_lists_of_wholes : Fn := runFn 1 2 m_are_lists_of_wholes
theorem ok_are_lists_of_wholes (W : Fx K mg) {k : Nat} (hk : 3 ≤ k) : OkF P w K mg base "are_lists_of_wholes" ["value"] k (spD K true f_are_lists_of_wholes) := by
  have Z : OkF P w K mg base "are_lists_of_wholes" ["value"] (2 + 1) (spD K true (runFn (List.length (α := Str) ["value"]) (List.length (α := Str) ["value", "row"]) m_are_lists_of_wholes)) := okF W.d_are_lists_of_wholes sc_are_lists_of_wholes fun f cdv A outer s H E hr => by
    have h64 := hr.units
    have h65 := u65 hr
    have h1 := hu_of hr
    exact PSs_as (ss_cons (s_if (t_not (t_truth (e_isi (e_var (pv 0)) (pe_bltn (by rfl) W.z_list bt_list rfl) (by rfl) W.z_isinstance bt_isinstance (by decide)))) (ss_one (s_ret (e_c pe_bl fun F => .bl _))) ss_nil)
  (ss_one (s_ret (e_callB1 (r_all rfl) (by rfl) W.z_all bt_all (e_lc rfl sc_are_lists_of_wholes.nd (i_list (e_var (pv 0))) (blkOk_by (N := ["value", "row"]) (own := [("row", 1)]) (sc := defScope s_are_lists_of_wholes) (by decide +kernel)) (fun _ _ _ _ _ => (g_name (i := 1) sc_are_lists_of_wholes.nd rfl (.inl rfl))) (fun _ _ _ _ _ => ts_nil) (fun _ _ _ _ _ => (f_callL (ok_are_wholes (P := P) (w := w) (base := base) W (by omega)) hr (by rfl) (l_here (e_var (pv 1)) a_nil))) (by decide)))))) rfl rfl
  exact Z.mono hk
/-! slots_of -/
abbrev s_slots_of : Stmt := topS 7
theorem sc_slots_of : FnScope ["row"] ["row"] (defScope s_slots_of) := ⟨rfl, rfl, rfl, by decide +kernel, rfl, by decide +kernel, by decide +kernel⟩
def m_slots_of : M Fl := sSeq (sIf (cOf (bin true opEq (subs true opIx (eVar 0) (eC (.int 0))) (eC (.str "turn")))) (sRet (subs true opIx (eVar 0) (eC (.int 2)))) (sNx))
  (sSeq (sIf (cOf (bin true opEq (subs true opIx (eVar 0) (eC (.int 0))) (eC (.str "fix")))) (sRet (eLst (aCons (subs true opIx (eVar 0) (eC (.int 2))) (aNil)))) (sNx))
  (sRet (eLst (aCons (subs true opIx (eVar 0) (eC (.int 1))) (aNil)))))
def f_slots_of : Fn := runFn 1 1 m_slots_of
theorem ok_slots_of (W : Fx K mg) {k : Nat} (hk : 1 ≤ k) : OkF P w K mg base "slots_of" ["row"] k (spD K true f_slots_of) := by
  have Z : OkF P w K mg base "slots_of" ["row"] (0 + 1) (spD K true (runFn (List.length (α := Str) ["row"]) (List.length (α := Str) ["row"]) m_slots_of)) := okF W.d_slots_of sc_slots_of fun f cdv A outer s H E hr => by
    have h64 := hr.units
    have h65 := u65 hr
    have h1 := hu_of hr
    exact PSs_as (ss_cons (s_if (t_cmp (r_eq h64) (e_subs (r_ix h1) (e_var (pv 0)) (e_c pe_int fun F => .int _) fun _ _ => rfl) (e_c pe_str fun F => .str _) (nomark _)) (ss_one (s_ret (e_subs (r_ix h1) (e_var (pv 0)) (e_c pe_int fun F => .int _) fun _ _ => rfl))) ss_nil)
  (ss_cons (s_if (t_cmp (r_eq h64) (e_subs (r_ix h1) (e_var (pv 0)) (e_c pe_int fun F => .int _) fun _ _ => rfl) (e_c pe_str fun F => .str _) (nomark _)) (ss_one (s_ret (e_lst (a_cons (e_subs (r_ix h1) (e_var (pv 0)) (e_c pe_int fun F => .int _) fun _ _ => rfl) a_nil)))) ss_nil)
  (ss_one (s_ret (e_lst (a_cons (e_subs (r_ix h1) (e_var (pv 0)) (e_c pe_int fun F => .int _) fun _ _ => rfl) a_nil)))))) rfl rfl
  exact Z.mono hk
/-! do_share -/
abbrev s_do_share : Stmt := topS 9
theorem sc_do_share : FnScope ["one", "other", "slot"] ["one", "other"] (defScope s_do_share) := ⟨rfl, rfl, rfl, by decide +kernel, rfl, by decide +kernel, by decide +kernel⟩
def m_do_share : M Fl := sRet (un opAny (lcM (srcV T.asList (eFn f_slots_of (aCons (eVar 0) (aNil)))) [2] (gNm 2) (cYes) (bin true opIn (eVar 2) (eFn f_slots_of (aCons (eVar 1) (aNil))))))
def f_do_share : Fn := runFn 2 3 m_do_share
theorem ok_do_share (W : Fx K mg) {k : Nat} (hk : 2 ≤ k) : OkF P w K mg base "do_share" ["one", "other"] k (spD K true f_do_share) := by
  have Z : OkF P w K mg base "do_share" ["one", "other"] (1 + 1) (spD K true (runFn (List.length (α := Str) ["one", "other"]) (List.length (α := Str) ["one", "other", "slot"]) m_do_share)) := okF W.d_do_share sc_do_share fun f cdv A outer s H E hr => by
    have h64 := hr.units
    have h65 := u65 hr
    have h1 := hu_of hr
    exact PSs_as (ss_one (s_ret (e_callB1 (r_any rfl) (by rfl) W.z_any bt_any (e_lc rfl sc_do_share.nd (i_list (f_call (ok_slots_of (P := P) (w := w) (base := base) W (by omega)) hr (by rfl) (a_cons (e_var (pv 0)) a_nil))) (blkOk_by (N := ["one", "other", "slot"]) (own := [("slot", 2)]) (sc := defScope s_do_share) (by decide +kernel)) (fun _ _ _ _ _ => (g_name (i := 2) sc_do_share.nd rfl (.inl rfl))) (fun _ _ _ _ _ => ts_nil) (fun _ _ _ _ _ => (e_cmp (r_in h65) (e_var (pv 2)) (f_call (ok_slots_of (P := P) (w := w) (base := base) W (by omega)) hr (by rfl) (a_cons (e_var (pv 1)) a_nil)) (by with_unfolding_all rfl))) (by decide))))) rfl rfl
  exact Z.mono hk
/-! reads_for -/
abbrev s_reads_for : Stmt := topS 11
theorem sc_reads_for : FnScope ["one", "other"] ["one", "other"] (defScope s_reads_for) := ⟨rfl, rfl, rfl, by decide +kernel, rfl, by decide +kernel, by decide +kernel⟩
def m_reads_for : M Fl := sRet (vAnd (bin true opEq (subs true opIx (eVar 0) (eC (.int 0))) (eC (.str "read"))) (vAnd (bin true opEq (subs true opIx (eVar 1) (eC (.int 0))) (eC (.str "fix"))) (bin true opIn (subs true opIx (eVar 0) (eC (.int 2))) (subs true opIx (eVar 1) (eC (.int 3))))))
def f_reads_for : Fn := runFn 2 2 m_reads_for
theorem ok_reads_for (W : Fx K mg) {k : Nat} (hk : 1 ≤ k) : OkF P w K mg base "reads_for" ["one", "other"] k (spD K true f_reads_for) := by
  have Z : OkF P w K mg base "reads_for" ["one", "other"] (0 + 1) (spD K true (runFn (List.length (α := Str) ["one", "other"]) (List.length (α := Str) ["one", "other"]) m_reads_for)) := okF W.d_reads_for sc_reads_for fun f cdv A outer s H E hr => by
    have h64 := hr.units
    have h65 := u65 hr
    have h1 := hu_of hr
    exact PSs_as (ss_one (s_ret (v_and (e_cmp (r_eq h64) (e_subs (r_ix h1) (e_var (pv 0)) (e_c pe_int fun F => .int _) fun _ _ => rfl) (e_c pe_str fun F => .str _) (nomark _)) (v_and (e_cmp (r_eq h64) (e_subs (r_ix h1) (e_var (pv 1)) (e_c pe_int fun F => .int _) fun _ _ => rfl) (e_c pe_str fun F => .str _) (nomark _)) (v_one (e_cmp (r_in h65) (e_subs (r_ix h1) (e_var (pv 0)) (e_c pe_int fun F => .int _) fun _ _ => rfl) (e_subs (r_ix h1) (e_var (pv 1)) (e_c pe_int fun F => .int _) fun _ _ => rfl) (by with_unfolding_all rfl))))))) rfl rfl
  exact Z.mono hk
/-! hang_together -/
abbrev s_hang_together : Stmt := topS 12
theorem sc_hang_together : FnScope ["one", "other", "kinds"] ["one", "other"] (defScope s_hang_together) := ⟨rfl, rfl, rfl, by decide +kernel, rfl, by decide +kernel, by decide +kernel⟩
def m_hang_together : M Fl := sSeq (sSet 2 (eTup (aCons (subs true opIx (eVar 0) (eC (.int 0))) (aCons (subs true opIx (eVar 1) (eC (.int 0))) (aNil)))))
  (sSeq (sIf (cOf (bin true opIn (eVar 2) (eTup (aCons (eTup (aCons (eC (.str "read")) (aCons (eC (.str "read")) (aNil)))) (aCons (eTup (aCons (eC (.str "read")) (aCons (eC (.str "new")) (aNil)))) (aCons (eTup (aCons (eC (.str "new")) (aCons (eC (.str "read")) (aNil)))) (aNil))))))) (sRet (eC (.bool true))) (sNx))
  (sRet (vOr (eFn f_do_share (aCons (eVar 0) (aCons (eVar 1) (aNil)))) (vOr (eFn f_reads_for (aCons (eVar 0) (aCons (eVar 1) (aNil)))) (eFn f_reads_for (aCons (eVar 1) (aCons (eVar 0) (aNil))))))))
def f_hang_together : Fn := runFn 2 3 m_hang_together
theorem ok_hang_together (W : Fx K mg) {k : Nat} (hk : 3 ≤ k) : OkF P w K mg base "hang_together" ["one", "other"] k (spD K true f_hang_together) := by
  have Z : OkF P w K mg base "hang_together" ["one", "other"] (2 + 1) (spD K true (runFn (List.length (α := Str) ["one", "other"]) (List.length (α := Str) ["one", "other", "kinds"]) m_hang_together)) := okF W.d_hang_together sc_hang_together fun f cdv A outer s H E hr => by
    have h64 := hr.units
    have h65 := u65 hr
    have h1 := hu_of hr
    exact PSs_as (ss_cons (s_set (i := 2) sc_hang_together.nd rfl (.inl rfl) (e_tup (a_cons (e_subs (r_ix h1) (e_var (pv 0)) (e_c pe_int fun F => .int _) fun _ _ => rfl) (a_cons (e_subs (r_ix h1) (e_var (pv 1)) (e_c pe_int fun F => .int _) fun _ _ => rfl) a_nil))))
  (ss_cons (s_if (t_cmp (r_in h65) (e_var (pv 2)) (e_tup (a_cons (e_tup (a_cons (e_c pe_str fun F => .str _) (a_cons (e_c pe_str fun F => .str _) a_nil))) (a_cons (e_tup (a_cons (e_c pe_str fun F => .str _) (a_cons (e_c pe_str fun F => .str _) a_nil))) (a_cons (e_tup (a_cons (e_c pe_str fun F => .str _) (a_cons (e_c pe_str fun F => .str _) a_nil))) a_nil)))) (by with_unfolding_all rfl)) (ss_one (s_ret (e_c pe_bl fun F => .bl _))) ss_nil)
  (ss_one (s_ret (v_or (f_call (ok_do_share (P := P) (w := w) (base := base) W (by omega)) hr (by rfl) (a_cons (e_var (pv 0)) (a_cons (e_var (pv 1)) a_nil))) (v_or (f_call (ok_reads_for (P := P) (w := w) (base := base) W (by omega)) hr (by rfl) (a_cons (e_var (pv 0)) (a_cons (e_var (pv 1)) a_nil))) (v_one (f_call (ok_reads_for (P := P) (w := w) (base := base) W (by omega)) hr (by rfl) (a_cons (e_var (pv 1)) (a_cons (e_var (pv 0)) a_nil)))))))))) rfl rfl
  exact Z.mono hk
/-! shows_chain -/
abbrev s_shows_chain : Stmt := topS 13
theorem sc_shows_chain : FnScope ["core", "chain", "rows", "k"] ["core", "chain"] (defScope s_shows_chain) := ⟨rfl, rfl, rfl, by decide +kernel, rfl, by decide +kernel, by decide +kernel⟩
def m_shows_chain : M Fl := sSeq (sSet 2 (subs true opIx (eVar 0) (eC (.int 1))))
  (sSeq (sIf (cOr (cNot (cTru (eFnL f_are_between (lHere true (eVar 1) (aCons (eC (.int 0)) (aCons (bin true opSub (un opLen (eVar 2)) (eC (.int 1))) (aNil))))))) (cNot (cTru (eFnL f_is_rising (lHere true (eVar 1) (aNil)))))) (sRet (eC (.bool false))) (sNx))
  (sRet (un opAll (lcM (srcR rng1 (aCons (bin true opSub (un opLen (eVar 1)) (eC (.int 1))) (aNil))) [3] (gNm 3) (cYes) (eFn f_hang_together (aCons (subs true opIx (eVar 2) (subs true opIx (eVar 1) (eVar 3))) (aCons (subs true opIx (eVar 2) (subs true opIx (eVar 1) (bin true opAdd (eVar 3) (eC (.int 1))))) (aNil))))))))
def f_shows_chain : Fn := runFn 2 4 m_shows_chain
theorem ok_shows_chain (W : Fx K mg) {k : Nat} (hk : 4 ≤ k) : OkF P w K mg base "shows_chain" ["core", "chain"] k (spD K true f_shows_chain) := by
  have Z : OkF P w K mg base "shows_chain" ["core", "chain"] (3 + 1) (spD K true (runFn (List.length (α := Str) ["core", "chain"]) (List.length (α := Str) ["core", "chain", "rows", "k"]) m_shows_chain)) := okF W.d_shows_chain sc_shows_chain fun f cdv A outer s H E hr => by
    have h64 := hr.units
    have h65 := u65 hr
    have h1 := hu_of hr
    exact PSs_as (ss_cons (s_set (i := 2) sc_shows_chain.nd rfl (.inr rfl) (e_subs (r_ix h1) (e_var (pv 0)) (e_c pe_int fun F => .int _) fun _ _ => rfl))
  (ss_cons (s_if (t_w (w_or (t_not (t_truth (f_callL (ok_are_between (P := P) (w := w) (base := base) W (by omega)) hr (by rfl) (l_here (e_var (pv 1)) (a_cons (e_c pe_int fun F => .int _) (a_cons (e_op r_sub (e_callB1 r_len (by rfl) W.z_len bt_len (e_var (pv 2))) (e_c pe_int fun F => .int _)) a_nil)))))) (w_or1 (t_not (t_truth (f_callL (ok_is_rising (P := P) (w := w) (base := base) W (by omega)) hr (by rfl) (l_here (e_var (pv 1)) a_nil))))))) (ss_one (s_ret (e_c pe_bl fun F => .bl _))) ss_nil)
  (ss_one (s_ret (e_callB1 (r_all rfl) (by rfl) W.z_all bt_all (e_lc rfl sc_shows_chain.nd (i_range1 (by rfl) W.z_range (a_cons (e_op r_sub (e_callB1 r_len (by rfl) W.z_len bt_len (e_var (pv 1))) (e_c pe_int fun F => .int _)) a_nil)) (blkOk_by (N := ["core", "chain", "rows", "k"]) (own := [("k", 3)]) (sc := defScope s_shows_chain) (by decide +kernel)) (fun _ _ _ _ _ => (g_name (i := 3) sc_shows_chain.nd rfl (.inl rfl))) (fun _ _ _ _ _ => ts_nil) (fun _ _ _ _ _ => (f_call (ok_hang_together (P := P) (w := w) (base := base) W (by omega)) hr (by rfl) (a_cons (e_subs (r_ix h1) (e_var (pv 2)) (e_subs (r_ix h1) (e_var (pv 1)) (e_var (pv 3)) fun _ _ => rfl) fun _ _ => rfl) (a_cons (e_subs (r_ix h1) (e_var (pv 2)) (e_subs (r_ix h1) (e_var (pv 1)) (e_op r_add (e_var (pv 3)) (e_c pe_int fun F => .int _)) fun _ _ => rfl) fun _ _ => rfl) a_nil)))) (by decide))))))) rfl rfl
  exact Z.mono hk
/-! shows_steps -/
abbrev s_shows_steps : Stmt := topS 14
theorem sc_shows_steps : FnScope ["core", "steps", "rows", "levels", "pairs", "level", "step", "at", "j", "i"] ["core", "steps"] (defScope s_shows_steps) := ⟨rfl, rfl, rfl, by decide +kernel, rfl, by decide +kernel, by decide +kernel⟩
def m_shows_steps : M Fl := sSeq (sSet 2 (subs true opIx (eVar 0) (eC (.int 1))))
  (sSeq (sIf (cOr (cNot (cTru (eFnL f_are_lists_of_wholes (lHere true (eVar 1) (aNil))))) (cNot (cTru (un opAll (lcM (srcV T.asList (eVar 1)) [6] (gNm 6) (cYes) (eFnL f_is_rising (lHere true (eVar 6) (aNil)))))))) (sRet (eC (.bool false))) (sNx))
  (sSeq (sIf (cOf (bin true opNe (un opSorted (lc2M (srcV T.asList (eVar 1)) [6, 7] [7] (gNm 6) (cYes) (srcV T.asList (eVar 6)) (gNm 7) (cYes) (eVar 7))) (eRange1 (un opLen (eVar 2))))) (sRet (eC (.bool false))) (sNx))
  (sSeq (sSet 3 (eDic))
  (sSeq (sFor (srcV T.asEnum (eVar 1)) (gTp 2 (gC (gNm 5) (gC (gNm 6) (gN0)))) (sFor (srcV T.asList (eVar 6)) (gNm 7) (sPut true putAny (eVar 5) (eVar 3) (eVar 7))))
  (sSeq (sSet 4 (lc2M (srcR rng1 (aCons (un opLen (eVar 2)) (aNil))) [8, 9] [9] (gNm 8) (cYes) (srcR rng1 (aCons (eVar 8) (aNil))) (gNm 9) (cTru (eFn f_hang_together (aCons (subs true opIx (eVar 2) (eVar 9)) (aCons (subs true opIx (eVar 2) (eVar 8)) (aNil))))) (eTup (aCons (eVar 9) (aCons (eVar 8) (aNil))))))
  (sRet (un opAll (lcM (srcV T.asList (eVar 4)) [9, 8] (gTp 2 (gC (gNm 9) (gC (gNm 8) (gN0)))) (cYes) (bin true opLt (subs true opIx (eVar 3) (eVar 9)) (subs true opIx (eVar 3) (eVar 8)))))))))))
def f_shows_steps : Fn := runFn 2 10 m_shows_steps
theorem ok_shows_steps (W : Fx K mg) {k : Nat} (hk : 4 ≤ k) : OkF P w K mg base "shows_steps" ["core", "steps"] k (spD K false f_shows_steps) := by
  have Z : OkF P w K mg base "shows_steps" ["core", "steps"] (3 + 1) (spD K false (runFn (List.length (α := Str) ["core", "steps"]) (List.length (α := Str) ["core", "steps", "rows", "levels", "pairs", "level", "step", "at", "j", "i"]) m_shows_steps)) := okF W.d_shows_steps sc_shows_steps fun f cdv A outer s H E hr => by
    have h64 := hr.units
    have h65 := u65 hr
    have h1 := hu_of hr
    exact PSs_as (ss_cons (s_set (i := 2) sc_shows_steps.nd rfl (.inr rfl) (e_subs (r_ix h1) (e_var (pv 0)) (e_c pe_int fun F => .int _) fun _ _ => rfl))
  (ss_cons (s_if (t_w (w_or (t_not (t_truth (f_callL (ok_are_lists_of_wholes (P := P) (w := w) (base := base) W (by omega)) hr (by rfl) (l_here (e_var (pv 1)) a_nil)))) (w_or1 (t_not (t_truth (e_callB1 (r_all rfl) (by rfl) W.z_all bt_all (e_lc rfl sc_shows_steps.nd (i_list (e_var (pv 1))) (blkOk_by (N := ["core", "steps", "rows", "levels", "pairs", "level", "step", "at", "j", "i"]) (own := [("step", 6)]) (sc := defScope s_shows_steps) (by decide +kernel)) (fun _ _ _ _ _ => (g_name (i := 6) sc_shows_steps.nd rfl (.inl rfl))) (fun _ _ _ _ _ => ts_nil) (fun _ _ _ _ _ => (f_callL (ok_is_rising (P := P) (w := w) (base := base) W (by omega)) hr (by rfl) (l_here (e_var (pv 6)) a_nil))) (by decide)))))))) (ss_one (s_ret (e_c pe_bl fun F => .bl _))) ss_nil)
  (ss_cons (s_if (t_cmp (r_ne h64) (e_callB1 r_sorted (by rfl) W.z_sorted bt_sorted (e_lc2 (vs1 := [7]) rfl sc_shows_steps.nd (i_list (e_var (pv 1))) (blkOk_by (N := ["core", "steps", "rows", "levels", "pairs", "level", "step", "at", "j", "i"]) (own := [("step", 6), ("at", 7)]) (sc := defScope s_shows_steps) (by decide +kernel)) (fun _ _ _ _ _ => (g_name (i := 6) sc_shows_steps.nd rfl (.inl rfl))) (fun _ _ _ _ _ => ts_nil) (fun _ _ _ _ _ => (i_list (e_var (pv 6)))) (fun _ _ _ _ _ => (g_name (i := 7) sc_shows_steps.nd rfl (.inl rfl))) (fun _ _ _ _ _ => ts_nil) (fun _ _ _ _ _ => (e_var (pv 7))) (by decide) (by decide) (by decide))) (e_listRange1 rfl (by rfl) W.z_list (by rfl) W.z_range (e_callB1 r_len (by rfl) W.z_len bt_len (e_var (pv 2)))) (nomark _)) (ss_one (s_ret (e_c pe_bl fun F => .bl _))) ss_nil)
  (ss_cons (s_set (i := 3) sc_shows_steps.nd rfl (.inr rfl) e_dic)
  (ss_cons (s_for PassesOwn.never rfl (i_enum (by rfl) W.z_enumerate (e_var (pv 1))) (g_tup rfl (gs_cons (g_name (i := 5) sc_shows_steps.nd rfl (.inl rfl)) (gs_cons (g_name (i := 6) sc_shows_steps.nd rfl (.inl rfl)) gs_nil))) (ss_one (s_for PassesOwn.never rfl (i_list (e_var (pv 6))) (g_name (i := 7) sc_shows_steps.nd rfl (.inl rfl)) (ss_one (s_put (p_any h1) (e_var (pv 5)) (e_var (pv 3)) (e_var (pv 7)))))))
  (ss_cons (s_setLc2 (i := 4) (vs1 := [9]) rfl sc_shows_steps.nd rfl rfl (i_range1 (by rfl) W.z_range (a_cons (e_callB1 r_len (by rfl) W.z_len bt_len (e_var (pv 2))) a_nil)) (blkOk_by (N := ["core", "steps", "rows", "levels", "pairs", "level", "step", "at", "j", "i"]) (own := [("j", 8), ("i", 9)]) (sc := defScope s_shows_steps) (by decide +kernel)) (fun _ _ _ _ _ => (g_name (i := 8) sc_shows_steps.nd rfl (.inl rfl))) (fun _ _ _ _ _ => ts_nil) (fun _ _ _ _ _ => (i_range1 (by rfl) W.z_range (a_cons (e_var (pv 8)) a_nil))) (fun _ _ _ _ _ => (g_name (i := 9) sc_shows_steps.nd rfl (.inl rfl))) (fun _ _ _ _ _ => (ts_one (t_truth (f_call (ok_hang_together (P := P) (w := w) (base := base) W (by omega)) hr (by rfl) (a_cons (e_subs (r_ix h1) (e_var (pv 2)) (e_var (pv 9)) fun _ _ => rfl) (a_cons (e_subs (r_ix h1) (e_var (pv 2)) (e_var (pv 8)) fun _ _ => rfl) a_nil)))))) (fun _ _ _ _ _ => (e_tup (a_cons (e_var (pv 9)) (a_cons (e_var (pv 8)) a_nil)))) (by decide) (by decide) (by decide) (by rfl))
  (ss_one (s_ret (e_callB1 (r_all rfl) (by rfl) W.z_all bt_all (e_lc rfl sc_shows_steps.nd (i_list (e_var (pv 4))) (blkOk_by (N := ["core", "steps", "rows", "levels", "pairs", "level", "step", "at", "j", "i"]) (own := [("i", 9), ("j", 8)]) (sc := defScope s_shows_steps) (by decide +kernel)) (fun _ _ _ _ _ => (g_tup rfl (gs_cons (g_name (i := 9) sc_shows_steps.nd rfl (.inl rfl)) (gs_cons (g_name (i := 8) sc_shows_steps.nd rfl (.inl rfl)) gs_nil)))) (fun _ _ _ _ _ => ts_nil) (fun _ _ _ _ _ => (e_cmp r_lt (e_subs (r_ix h1) (e_var (pv 3)) (e_var (pv 9)) fun _ _ => rfl) (e_subs (r_ix h1) (e_var (pv 3)) (e_var (pv 8)) fun _ _ => rfl) (nomark _))) (by decide))))))))))) rfl rfl
  exact Z.mono hk
/-! _law_feed -/
abbrev s__law_feed : Stmt := topS 16
theorem sc__law_feed : FnScope ["script"] ["script"] (defScope s__law_feed) := ⟨rfl, rfl, rfl, by decide +kernel, rfl, by decide +kernel, by decide +kernel⟩
def m__law_feed : M Fl := sRet (eLst (aCons (un opListOf (eVar 0)) (aCons (eC (.int 0)) (aCons (eC (.int 0)) (aCons (eC (.int 1)) (aNil))))))
def f__law_feed : Fn := runFn 1 1 m__law_feed
theorem ok__law_feed (W : Fx K mg) {k : Nat} (hk : 1 ≤ k) : OkF P w K mg base "_law_feed" ["script"] k (spD K true f__law_feed) := by
  have Z : OkF P w K mg base "_law_feed" ["script"] (0 + 1) (spD K true (runFn (List.length (α := Str) ["script"]) (List.length (α := Str) ["script"]) m__law_feed)) := okF W.d__law_feed sc__law_feed fun f cdv A outer s H E hr => by
    have h64 := hr.units
    have h65 := u65 hr
    have h1 := hu_of hr
    exact PSs_as (ss_one (s_ret (e_lst (a_cons (e_callTy1 r_listOf (by rfl) W.z_list bt_list (e_var (pv 0))) (a_cons (e_c pe_int fun F => .int _) (a_cons (e_c pe_int fun F => .int _) (a_cons (e_c pe_int fun F => .int _) a_nil))))))) rfl rfl
  exact Z.mono hk
/-! _law_draw -/
abbrev s__law_draw : Stmt := topS 17
theorem sc__law_draw : FnScope ["feed", "many", "mixed", "cell", "told"] ["feed", "many"] (defScope s__law_draw) := ⟨rfl, rfl, rfl, by decide +kernel, rfl, by decide +kernel, by decide +kernel⟩
def m__law_draw : M Fl := sSeq (sIf (cAnd (cOf (bin true opEq (subs true opIx (eVar 0) (eC (.int 2))) (eC (.int 0)))) (cOf (bin true opLt (subs true opIx (eVar 0) (eC (.int 1))) (un opLen (subs true opIx (eVar 0) (eC (.int 0))))))) (sSeq (sSet 3 (un opAbs (un opInt (subs true opIx (subs true opIx (eVar 0) (eC (.int 0))) (subs true opIx (eVar 0) (eC (.int 1)))))))
  (sSeq (sAugS true true opAddI (eVar 0) (eC (.int 1)) (eC (.int 1)))
  (sIf (cOf (bin true opGe (eVar 3) (bin true opPow (eC (.int 10)) (eC (.int 18))))) (sPut true putAny (eVar 3) (eVar 0) (eC (.int 2))) (sPut true putAny (bin true opMod (un opInt (bin true opAdd (bin true opAdd (bin true opMul (subs true opIx (eVar 0) (eC (.int 3))) (eC (.int 48271))) (bin true opMul (eVar 3) (eC (.int 69621)))) (subs true opIx (eVar 0) (eC (.int 1))))) (eC (.int 2147483647))) (eVar 0) (eC (.int 3)))))) (sNx))
  (sSeq (sIf (cOf (bin true opGt (subs true opIx (eVar 0) (eC (.int 2))) (eC (.int 0)))) (sSeq (sSet 4 (bin true opMod (un opInt (subs true opIx (eVar 0) (eC (.int 2)))) (eVar 1)))
  (sSeq (sPut true putAny (bin true opFdiv (subs true opIx (eVar 0) (eC (.int 2))) (eVar 1)) (eVar 0) (eC (.int 2)))
  (sRet (eVar 4)))) (sNx))
  (sSeq (sPut true putAny (bin true opMod (un opInt (bin true opAdd (bin true opMul (subs true opIx (eVar 0) (eC (.int 3))) (eC (.int 16807))) (eC (.int 12345)))) (eC (.int 2147483647))) (eVar 0) (eC (.int 3)))
  (sSeq (sSet 2 (bin true opMod (un opInt (bin true opAdd (bin true opMul (subs true opIx (eVar 0) (eC (.int 3))) (subs true opIx (eVar 0) (eC (.int 3)))) (subs true opIx (eVar 0) (eC (.int 3))))) (eC (.int 2147483629))))
  (sRet (bin true opMod (bin true opFdiv (eVar 2) (eC (.int 11))) (eVar 1))))))
def f__law_draw : Fn := runFn 2 5 m__law_draw
theorem ok__law_draw (W : Fx K mg) {k : Nat} (hk : 1 ≤ k) : OkF P w K mg base "_law_draw" ["feed", "many"] k (spD K false f__law_draw) := by
  have Z : OkF P w K mg base "_law_draw" ["feed", "many"] (0 + 1) (spD K false (runFn (List.length (α := Str) ["feed", "many"]) (List.length (α := Str) ["feed", "many", "mixed", "cell", "told"]) m__law_draw)) := okF W.d__law_draw sc__law_draw fun f cdv A outer s H E hr => by
    have h64 := hr.units
    have h65 := u65 hr
    have h1 := hu_of hr
    exact PSs_as (ss_cons (s_if (t_w (w_and (t_cmp (r_eq h64) (e_subs (r_ix h1) (e_var (pv 0)) (e_c pe_int fun F => .int _) fun _ _ => rfl) (e_c pe_int fun F => .int _) (nomark _)) (w_and1 (t_cmp r_lt (e_subs (r_ix h1) (e_var (pv 0)) (e_c pe_int fun F => .int _) fun _ _ => rfl) (e_callB1 r_len (by rfl) W.z_len bt_len (e_subs (r_ix h1) (e_var (pv 0)) (e_c pe_int fun F => .int _) fun _ _ => rfl)) (nomark _))))) (ss_cons (s_set (i := 3) sc__law_draw.nd rfl (.inl rfl) (e_callB1 r_abs (by rfl) W.z_abs bt_abs (e_callTy1 r_int (by rfl) W.z_int bt_int (e_subs (r_ix h1) (e_subs (r_ix h1) (e_var (pv 0)) (e_c pe_int fun F => .int _) fun _ _ => rfl) (e_subs (r_ix h1) (e_var (pv 0)) (e_c pe_int fun F => .int _) fun _ _ => rfl) fun _ _ => rfl))))
  (ss_cons (s_augS (e_var (pv 0)) (e_c pe_int fun F => .int _) (e_c pe_int fun F => .int _) i_add)
  (ss_one (s_if (t_cmp r_ge (e_var (pv 3)) (e_op r_pow (e_c pe_int fun F => .int _) (e_c pe_int fun F => .int _)) (nomark _)) (ss_one (s_put (p_any h1) (e_var (pv 3)) (e_var (pv 0)) (e_c pe_int fun F => .int _))) (ss_one (s_put (p_any h1) (e_op r_mod (e_callTy1 r_int (by rfl) W.z_int bt_int (e_op r_add (e_op r_add (e_op r_mul (e_subs (r_ix h1) (e_var (pv 0)) (e_c pe_int fun F => .int _) fun _ _ => rfl) (e_c pe_int fun F => .int _)) (e_op r_mul (e_var (pv 3)) (e_c pe_int fun F => .int _))) (e_subs (r_ix h1) (e_var (pv 0)) (e_c pe_int fun F => .int _) fun _ _ => rfl))) (e_c pe_int fun F => .int _)) (e_var (pv 0)) (e_c pe_int fun F => .int _))))))) ss_nil)
  (ss_cons (s_if (t_cmp r_gt (e_subs (r_ix h1) (e_var (pv 0)) (e_c pe_int fun F => .int _) fun _ _ => rfl) (e_c pe_int fun F => .int _) (nomark _)) (ss_cons (s_set (i := 4) sc__law_draw.nd rfl (.inl rfl) (e_op r_mod (e_callTy1 r_int (by rfl) W.z_int bt_int (e_subs (r_ix h1) (e_var (pv 0)) (e_c pe_int fun F => .int _) fun _ _ => rfl)) (e_var (pv 1))))
  (ss_cons (s_put (p_any h1) (e_op r_fdiv (e_subs (r_ix h1) (e_var (pv 0)) (e_c pe_int fun F => .int _) fun _ _ => rfl) (e_var (pv 1))) (e_var (pv 0)) (e_c pe_int fun F => .int _))
  (ss_one (s_ret (e_var (pv 4)))))) ss_nil)
  (ss_cons (s_put (p_any h1) (e_op r_mod (e_callTy1 r_int (by rfl) W.z_int bt_int (e_op r_add (e_op r_mul (e_subs (r_ix h1) (e_var (pv 0)) (e_c pe_int fun F => .int _) fun _ _ => rfl) (e_c pe_int fun F => .int _)) (e_c pe_int fun F => .int _))) (e_c pe_int fun F => .int _)) (e_var (pv 0)) (e_c pe_int fun F => .int _))
  (ss_cons (s_set (i := 2) sc__law_draw.nd rfl (.inl rfl) (e_op r_mod (e_callTy1 r_int (by rfl) W.z_int bt_int (e_op r_add (e_op r_mul (e_subs (r_ix h1) (e_var (pv 0)) (e_c pe_int fun F => .int _) fun _ _ => rfl) (e_subs (r_ix h1) (e_var (pv 0)) (e_c pe_int fun F => .int _) fun _ _ => rfl)) (e_subs (r_ix h1) (e_var (pv 0)) (e_c pe_int fun F => .int _) fun _ _ => rfl))) (e_c pe_int fun F => .int _)))
  (ss_one (s_ret (e_op r_mod (e_op r_fdiv (e_var (pv 2)) (e_c pe_int fun F => .int _)) (e_var (pv 1))))))))) rfl rfl
  exact Z.mono hk
/-! _law_whole -/
abbrev s__law_whole : Stmt := topS 18
theorem sc__law_whole : FnScope ["value"] ["value"] (defScope s__law_whole) := ⟨rfl, rfl, rfl, by decide +kernel, rfl, by decide +kernel, by decide +kernel⟩
def m__law_whole : M Fl := sRet (vAnd (un (opIsi "int") (eVar 0)) (vNot (cOf (un (opIsi "bool") (eVar 0)))))
def f__law_whole : Fn := runFn 1 1 m__law_whole
theorem ok__law_whole (W : Fx K mg) {k : Nat} (hk : 1 ≤ k) : OkF P w K mg base "_law_whole" ["value"] k (spD K true f__law_whole) := by
  have Z : OkF P w K mg base "_law_whole" ["value"] (0 + 1) (spD K true (runFn (List.length (α := Str) ["value"]) (List.length (α := Str) ["value"]) m__law_whole)) := okF W.d__law_whole sc__law_whole fun f cdv A outer s H E hr => by
    have h64 := hr.units
    have h65 := u65 hr
    have h1 := hu_of hr
    exact PSs_as (ss_one (s_ret (v_and (e_isi (e_var (pv 0)) (pe_bltn (by rfl) W.z_int bt_int rfl) (by rfl) W.z_isinstance bt_isinstance (by decide)) (v_one (v_not (e_isi (e_var (pv 0)) (pe_bltn (by rfl) W.z_bool bt_bool rfl) (by rfl) W.z_isinstance bt_isinstance (by decide))))))) rfl rfl
  exact Z.mono hk
/-! _law_slots -/
abbrev s__law_slots : Stmt := topS 19
theorem sc__law_slots : FnScope ["row"] ["row"] (defScope s__law_slots) := ⟨rfl, rfl, rfl, by decide +kernel, rfl, by decide +kernel, by decide +kernel⟩
def m__law_slots : M Fl := sSeq (sIf (cOf (bin true opEq (subs true opIx (eVar 0) (eC (.int 0))) (eC (.str "turn")))) (sRet (subs true opIx (eVar 0) (eC (.int 2)))) (sNx))
  (sSeq (sIf (cOf (bin true opEq (subs true opIx (eVar 0) (eC (.int 0))) (eC (.str "fix")))) (sRet (eLst (aCons (subs true opIx (eVar 0) (eC (.int 2))) (aNil)))) (sNx))
  (sRet (eLst (aCons (subs true opIx (eVar 0) (eC (.int 1))) (aNil)))))
def f__law_slots : Fn := runFn 1 1 m__law_slots
theorem ok__law_slots (W : Fx K mg) {k : Nat} (hk : 1 ≤ k) : OkF P w K mg base "_law_slots" ["row"] k (spD K true f__law_slots) := by
  have Z : OkF P w K mg base "_law_slots" ["row"] (0 + 1) (spD K true (runFn (List.length (α := Str) ["row"]) (List.length (α := Str) ["row"]) m__law_slots)) := okF W.d__law_slots sc__law_slots fun f cdv A outer s H E hr => by
    have h64 := hr.units
    have h65 := u65 hr
    have h1 := hu_of hr
    exact PSs_as (ss_cons (s_if (t_cmp (r_eq h64) (e_subs (r_ix h1) (e_var (pv 0)) (e_c pe_int fun F => .int _) fun _ _ => rfl) (e_c pe_str fun F => .str _) (nomark _)) (ss_one (s_ret (e_subs (r_ix h1) (e_var (pv 0)) (e_c pe_int fun F => .int _) fun _ _ => rfl))) ss_nil)
  (ss_cons (s_if (t_cmp (r_eq h64) (e_subs (r_ix h1) (e_var (pv 0)) (e_c pe_int fun F => .int _) fun _ _ => rfl) (e_c pe_str fun F => .str _) (nomark _)) (ss_one (s_ret (e_lst (a_cons (e_subs (r_ix h1) (e_var (pv 0)) (e_c pe_int fun F => .int _) fun _ _ => rfl) a_nil)))) ss_nil)
  (ss_one (s_ret (e_lst (a_cons (e_subs (r_ix h1) (e_var (pv 0)) (e_c pe_int fun F => .int _) fun _ _ => rfl) a_nil)))))) rfl rfl
  exact Z.mono hk
/-! _law_share -/
abbrev s__law_share : Stmt := topS 20
theorem sc__law_share : FnScope ["one", "other", "slot"] ["one", "other"] (defScope s__law_share) := ⟨rfl, rfl, rfl, by decide +kernel, rfl, by decide +kernel, by decide +kernel⟩
def m__law_share : M Fl := sRet (bin true opGt (un opLen (lcM (srcV T.asList (eFn f__law_slots (aCons (eVar 0) (aNil)))) [2] (gNm 2) (cOf (bin true opIn (eVar 2) (eFn f__law_slots (aCons (eVar 1) (aNil))))) (eVar 2))) (eC (.int 0)))
def f__law_share : Fn := runFn 2 3 m__law_share
theorem ok__law_share (W : Fx K mg) {k : Nat} (hk : 2 ≤ k) : OkF P w K mg base "_law_share" ["one", "other"] k (spD K true f__law_share) := by
  have Z : OkF P w K mg base "_law_share" ["one", "other"] (1 + 1) (spD K true (runFn (List.length (α := Str) ["one", "other"]) (List.length (α := Str) ["one", "other", "slot"]) m__law_share)) := okF W.d__law_share sc__law_share fun f cdv A outer s H E hr => by
    have h64 := hr.units
    have h65 := u65 hr
    have h1 := hu_of hr
    exact PSs_as (ss_one (s_ret (e_cmp r_gt (e_callB1 r_len (by rfl) W.z_len bt_len (e_lc rfl sc__law_share.nd (i_list (f_call (ok__law_slots (P := P) (w := w) (base := base) W (by omega)) hr (by rfl) (a_cons (e_var (pv 0)) a_nil))) (blkOk_by (N := ["one", "other", "slot"]) (own := [("slot", 2)]) (sc := defScope s__law_share) (by decide +kernel)) (fun _ _ _ _ _ => (g_name (i := 2) sc__law_share.nd rfl (.inl rfl))) (fun _ _ _ _ _ => (ts_one (t_cmp (r_in h65) (e_var (pv 2)) (f_call (ok__law_slots (P := P) (w := w) (base := base) W (by omega)) hr (by rfl) (a_cons (e_var (pv 1)) a_nil)) (by with_unfolding_all rfl)))) (fun _ _ _ _ _ => (e_var (pv 2))) (by decide))) (e_c pe_int fun F => .int _) (nomark _)))) rfl rfl
  exact Z.mono hk
/-! _law_hang -/
abbrev s__law_hang : Stmt := topS 21
theorem sc__law_hang : FnScope ["one", "other", "kinds"] ["one", "other"] (defScope s__law_hang) := ⟨rfl, rfl, rfl, by decide +kernel, rfl, by decide +kernel, by decide +kernel⟩
def m__law_hang : M Fl := sSeq (sIf (cTru (eFn f__law_share (aCons (eVar 0) (aCons (eVar 1) (aNil))))) (sRet (eC (.bool true))) (sNx))
  (sSeq (sSet 2 (eLst (aCons (subs true opIx (eVar 0) (eC (.int 0))) (aCons (subs true opIx (eVar 1) (eC (.int 0))) (aNil)))))
  (sSeq (sIf (cOf (bin true opIn (eVar 2) (eLst (aCons (eLst (aCons (eC (.str "read")) (aCons (eC (.str "read")) (aNil)))) (aCons (eLst (aCons (eC (.str "read")) (aCons (eC (.str "new")) (aNil)))) (aCons (eLst (aCons (eC (.str "new")) (aCons (eC (.str "read")) (aNil)))) (aNil))))))) (sRet (eC (.bool true))) (sNx))
  (sSeq (sIf (cOf (bin true opEq (eVar 2) (eLst (aCons (eC (.str "read")) (aCons (eC (.str "fix")) (aNil)))))) (sRet (bin true opIn (subs true opIx (eVar 0) (eC (.int 2))) (subs true opIx (eVar 1) (eC (.int 3))))) (sNx))
  (sRet (vAnd (bin true opEq (eVar 2) (eLst (aCons (eC (.str "fix")) (aCons (eC (.str "read")) (aNil))))) (bin true opIn (subs true opIx (eVar 1) (eC (.int 2))) (subs true opIx (eVar 0) (eC (.int 3)))))))))
def f__law_hang : Fn := runFn 2 3 m__law_hang
theorem ok__law_hang (W : Fx K mg) {k : Nat} (hk : 3 ≤ k) : OkF P w K mg base "_law_hang" ["one", "other"] k (spD K true f__law_hang) := by
  have Z : OkF P w K mg base "_law_hang" ["one", "other"] (2 + 1) (spD K true (runFn (List.length (α := Str) ["one", "other"]) (List.length (α := Str) ["one", "other", "kinds"]) m__law_hang)) := okF W.d__law_hang sc__law_hang fun f cdv A outer s H E hr => by
    have h64 := hr.units
    have h65 := u65 hr
    have h1 := hu_of hr
    exact PSs_as (ss_cons (s_if (t_truth (f_call (ok__law_share (P := P) (w := w) (base := base) W (by omega)) hr (by rfl) (a_cons (e_var (pv 0)) (a_cons (e_var (pv 1)) a_nil)))) (ss_one (s_ret (e_c pe_bl fun F => .bl _))) ss_nil)
  (ss_cons (s_set (i := 2) sc__law_hang.nd rfl (.inl rfl) (e_lst (a_cons (e_subs (r_ix h1) (e_var (pv 0)) (e_c pe_int fun F => .int _) fun _ _ => rfl) (a_cons (e_subs (r_ix h1) (e_var (pv 1)) (e_c pe_int fun F => .int _) fun _ _ => rfl) a_nil))))
  (ss_cons (s_if (t_cmp (r_in h65) (e_var (pv 2)) (e_lst (a_cons (e_lst (a_cons (e_c pe_str fun F => .str _) (a_cons (e_c pe_str fun F => .str _) a_nil))) (a_cons (e_lst (a_cons (e_c pe_str fun F => .str _) (a_cons (e_c pe_str fun F => .str _) a_nil))) (a_cons (e_lst (a_cons (e_c pe_str fun F => .str _) (a_cons (e_c pe_str fun F => .str _) a_nil))) a_nil)))) (by with_unfolding_all rfl)) (ss_one (s_ret (e_c pe_bl fun F => .bl _))) ss_nil)
  (ss_cons (s_if (t_cmp (r_eq h64) (e_var (pv 2)) (e_lst (a_cons (e_c pe_str fun F => .str _) (a_cons (e_c pe_str fun F => .str _) a_nil))) (nomark _)) (ss_one (s_ret (e_cmp (r_in h65) (e_subs (r_ix h1) (e_var (pv 0)) (e_c pe_int fun F => .int _) fun _ _ => rfl) (e_subs (r_ix h1) (e_var (pv 1)) (e_c pe_int fun F => .int _) fun _ _ => rfl) (by with_unfolding_all rfl)))) ss_nil)
  (ss_one (s_ret (v_and (e_cmp (r_eq h64) (e_var (pv 2)) (e_lst (a_cons (e_c pe_str fun F => .str _) (a_cons (e_c pe_str fun F => .str _) a_nil))) (nomark _)) (v_one (e_cmp (r_in h65) (e_subs (r_ix h1) (e_var (pv 1)) (e_c pe_int fun F => .int _) fun _ _ => rfl) (e_subs (r_ix h1) (e_var (pv 0)) (e_c pe_int fun F => .int _) fun _ _ => rfl) (by with_unfolding_all rfl)))))))))) rfl rfl
  exact Z.mono hk
/-! _law_levels -/
abbrev s__law_levels : Stmt := topS 22
theorem sc__law_levels : FnScope ["rows", "levels", "k", "j"] ["rows"] (defScope s__law_levels) := ⟨rfl, rfl, rfl, by decide +kernel, rfl, by decide +kernel, by decide +kernel⟩
def m__law_levels : M Fl := sSeq (sSet 1 (eLst (aNil)))
  (sSeq (sFor (srcR rng1 (aCons (un opLen (eVar 0)) (aNil))) (gNm 2) (sExpr (mutM "list" true lAppend (eVar 1) (bConsF (un opMax (bin true opAdd (eLst (aCons (eC (.int 0)) (aNil))) (lcM (srcR rng1 (aCons (eVar 2) (aNil))) [3] (gNm 3) (cTru (eFn f__law_hang (aCons (subs true opIx (eVar 0) (eVar 3)) (aCons (subs true opIx (eVar 0) (eVar 2)) (aNil))))) (bin true opAdd (subs true opIx (eVar 1) (eVar 3)) (eC (.int 1)))))) (bNil)))))
  (sRet (eVar 1)))
def f__law_levels : Fn := runFn 1 4 m__law_levels
theorem ok__law_levels (W : Fx K mg) {k : Nat} (hk : 4 ≤ k) : OkF P w K mg base "_law_levels" ["rows"] k (spD K false f__law_levels) := by
  have Z : OkF P w K mg base "_law_levels" ["rows"] (3 + 1) (spD K false (runFn (List.length (α := Str) ["rows"]) (List.length (α := Str) ["rows", "levels", "k", "j"]) m__law_levels)) := okF W.d__law_levels sc__law_levels fun f cdv A outer s H E hr => by
    have h64 := hr.units
    have h65 := u65 hr
    have h1 := hu_of hr
    exact PSs_as (ss_cons (s_set (i := 1) sc__law_levels.nd rfl (.inr rfl) (e_lst a_nil))
  (ss_cons (s_for PassesOwn.never rfl (i_range1 (by rfl) W.z_range (a_cons (e_callB1 r_len (by rfl) W.z_len bt_len (e_var (pv 0))) a_nil)) (g_name (i := 2) sc__law_levels.nd rfl (.inr rfl)) (ss_one (s_expr (e_mut PySem.F.plainAttrs_list PySem.F.slot_list_append PySem.F.type_list_append ty_list m_append (e_var (pv 1)) (b_consF (e_callB1 (r_max rfl) (by rfl) W.z_max bt_max (e_op r_add (e_lst (a_cons (e_c pe_int fun F => .int _) a_nil)) (e_lc rfl sc__law_levels.nd (i_range1 (by rfl) W.z_range (a_cons (e_var (pv 2)) a_nil)) (blkOk_by (N := ["rows", "levels", "k", "j"]) (own := [("j", 3)]) (sc := defScope s__law_levels) (by decide +kernel)) (fun _ _ _ _ _ => (g_name (i := 3) sc__law_levels.nd rfl (.inl rfl))) (fun _ _ _ _ _ => (ts_one (t_truth (f_call (ok__law_hang (P := P) (w := w) (base := base) W (by omega)) hr (by rfl) (a_cons (e_subs (r_ix h1) (e_var (pv 0)) (e_var (pv 3)) fun _ _ => rfl) (a_cons (e_subs (r_ix h1) (e_var (pv 0)) (e_var (pv 2)) fun _ _ => rfl) a_nil)))))) (fun _ _ _ _ _ => (e_op r_add (e_subs (r_ix h1) (e_var (pv 1)) (e_var (pv 3)) fun _ _ => rfl) (e_c pe_int fun F => .int _))) (by decide)))) b_nil)))))
  (ss_one (s_ret (e_var (pv 1)))))) rfl rfl
  exact Z.mono hk
/-! _law_copy -/
abbrev s__law_copy : Stmt := topS 23
theorem sc__law_copy : FnScope ["core", "rows", "row", "own"] ["core"] (defScope s__law_copy) := ⟨rfl, rfl, rfl, by decide +kernel, rfl, by decide +kernel, by decide +kernel⟩
def m__law_copy : M Fl := sSeq (sSet 1 (eLst (aNil)))
  (sSeq (sFor (srcV T.asList (subs true opIx (eVar 0) (eC (.int 1)))) (gNm 2) (sSeq (sSet 3 (un opListOf (eVar 2)))
  (sSeq (sIf (cOf (bin true opEq (subs true opIx (eVar 2) (eC (.int 0))) (eC (.str "turn")))) (sPut true putAny (un opListOf (subs true opIx (eVar 2) (eC (.int 2)))) (eVar 3) (eC (.int 2))) (sNx))
  (sSeq (sIf (cOf (bin true opEq (subs true opIx (eVar 2) (eC (.int 0))) (eC (.str "fix")))) (sPut true putAny (un opListOf (subs true opIx (eVar 2) (eC (.int 3)))) (eVar 3) (eC (.int 3))) (sNx))
  (sExpr (mutM "list" true lAppend (eVar 1) (bConsF (un opTupOf (eVar 3)) (bNil))))))))
  (sRet (eTup (aCons (subs true opIx (eVar 0) (eC (.int 0))) (aCons (eVar 1) (aCons (un opListOf (subs true opIx (eVar 0) (eC (.int 2)))) (aCons (un opListOf (subs true opIx (eVar 0) (eC (.int 3)))) (aNil))))))))
def f__law_copy : Fn := runFn 1 4 m__law_copy
theorem ok__law_copy (W : Fx K mg) {k : Nat} (hk : 1 ≤ k) : OkF P w K mg base "_law_copy" ["core"] k (spD K false f__law_copy) := by
  have Z : OkF P w K mg base "_law_copy" ["core"] (0 + 1) (spD K false (runFn (List.length (α := Str) ["core"]) (List.length (α := Str) ["core", "rows", "row", "own"]) m__law_copy)) := okF W.d__law_copy sc__law_copy fun f cdv A outer s H E hr => by
    have h64 := hr.units
    have h65 := u65 hr
    have h1 := hu_of hr
    exact PSs_as (ss_cons (s_set (i := 1) sc__law_copy.nd rfl (.inl rfl) (e_lst a_nil))
  (ss_cons (s_for PassesOwn.never rfl (i_list (e_subs (r_ix h1) (e_var (pv 0)) (e_c pe_int fun F => .int _) fun _ _ => rfl)) (g_name (i := 2) sc__law_copy.nd rfl (.inl rfl)) (ss_cons (s_set (i := 3) sc__law_copy.nd rfl (.inl rfl) (e_callTy1 r_listOf (by rfl) W.z_list bt_list (e_var (pv 2))))
  (ss_cons (s_if (t_cmp (r_eq h64) (e_subs (r_ix h1) (e_var (pv 2)) (e_c pe_int fun F => .int _) fun _ _ => rfl) (e_c pe_str fun F => .str _) (nomark _)) (ss_one (s_put (p_any h1) (e_callTy1 r_listOf (by rfl) W.z_list bt_list (e_subs (r_ix h1) (e_var (pv 2)) (e_c pe_int fun F => .int _) fun _ _ => rfl)) (e_var (pv 3)) (e_c pe_int fun F => .int _))) ss_nil)
  (ss_cons (s_if (t_cmp (r_eq h64) (e_subs (r_ix h1) (e_var (pv 2)) (e_c pe_int fun F => .int _) fun _ _ => rfl) (e_c pe_str fun F => .str _) (nomark _)) (ss_one (s_put (p_any h1) (e_callTy1 r_listOf (by rfl) W.z_list bt_list (e_subs (r_ix h1) (e_var (pv 2)) (e_c pe_int fun F => .int _) fun _ _ => rfl)) (e_var (pv 3)) (e_c pe_int fun F => .int _))) ss_nil)
  (ss_one (s_expr (e_mut PySem.F.plainAttrs_list PySem.F.slot_list_append PySem.F.type_list_append ty_list m_append (e_var (pv 1)) (b_consF (e_callTy1 r_tupOf (by rfl) W.z_tuple bt_tuple (e_var (pv 3))) b_nil))))))))
  (ss_one (s_ret (e_tup (a_cons (e_subs (r_ix h1) (e_var (pv 0)) (e_c pe_int fun F => .int _) fun _ _ => rfl) (a_cons (e_var (pv 1)) (a_cons (e_callTy1 r_listOf (by rfl) W.z_list bt_list (e_subs (r_ix h1) (e_var (pv 0)) (e_c pe_int fun F => .int _) fun _ _ => rfl)) (a_cons (e_callTy1 r_listOf (by rfl) W.z_list bt_list (e_subs (r_ix h1) (e_var (pv 0)) (e_c pe_int fun F => .int _) fun _ _ => rfl)) a_nil))))))))) rfl rfl
  exact Z.mono hk
/-! _law_same -/
abbrev s__law_same : Stmt := topS 24
theorem sc__law_same : FnScope ["actual", "due", "k"] ["actual", "due"] (defScope s__law_same) := ⟨rfl, rfl, rfl, by decide +kernel, rfl, by decide +kernel, by decide +kernel⟩
def m__law_same (self : Fn) : M Fl := sSeq (sIf (cOr (cTru (un (opIsi "list") (eVar 1))) (cTru (un (opIsi "tuple") (eVar 1)))) (sSeq (sIf (cOr (cOf (bin true opNe (un (opIsi "list") (eVar 0)) (un (opIsi "list") (eVar 1)))) (cOf (bin true opNe (un (opIsi "tuple") (eVar 0)) (un (opIsi "tuple") (eVar 1))))) (sRet (eC (.bool false))) (sNx))
  (sRet (vAnd (bin true opEq (un opLen (eVar 0)) (un opLen (eVar 1))) (un opAll (lcM (srcR rng1 (aCons (un opLen (eVar 1)) (aNil))) [2] (gNm 2) (cYes) (eFnL self (lHere true (subs true opIx (eVar 0) (eVar 2)) (aCons (subs true opIx (eVar 1) (eVar 2)) (aNil))))))))) (sNx))
  (sSeq (sIf (cOr (cOf (bin true opIs (eVar 1) (eC .none))) (cTru (un (opIsi "bool") (eVar 1)))) (sRet (eIf (cOf (bin true opIs (eVar 1) (eC .none))) (bin true opIs (eVar 0) (eC .none)) (vAnd (un (opIsi "bool") (eVar 0)) (bin true opEq (eVar 0) (eVar 1))))) (sNx))
  (sSeq (sIf (cTru (un (opIsi "str") (eVar 1))) (sRet (vAnd (un (opIsi "str") (eVar 0)) (bin true opEq (eVar 0) (eVar 1)))) (sNx))
  (sRet (vAnd (un (opIsi "int") (eVar 0)) (vAnd (vNot (cOf (un (opIsi "bool") (eVar 0)))) (bin true opEq (eVar 0) (eVar 1)))))))
def g__law_same : Nat → Fn
  | 0 => noFn
  | n + 1 => runFn 2 3 (m__law_same (g__law_same n))
theorem okg__law_same (W : Fx K mg) : ∀ n : Nat, OkF P w K mg base "_law_same" ["actual", "due"] (n + 1) (spD K true (g__law_same n))
  | 0 => okNo W.d__law_same
  | n + 1 => by
    have SELF := okg__law_same W n
    have Z : OkF P w K mg base "_law_same" ["actual", "due"] (n + 1 + 1) (spD K true (runFn (List.length (α := Str) ["actual", "due"]) (List.length (α := Str) ["actual", "due", "k"]) (m__law_same (g__law_same n)))) := okF W.d__law_same sc__law_same fun f cdv A outer s H E hr => by
      have h64 := hr.units
      have h65 := u65 hr
      have h1 := hu_of hr
      exact PSs_as (ss_cons (s_if (t_w (w_or (t_truth (e_isi (e_var (pv 1)) (pe_bltn (by rfl) W.z_list bt_list rfl) (by rfl) W.z_isinstance bt_isinstance (by decide))) (w_or1 (t_truth (e_isi (e_var (pv 1)) (pe_bltn (by rfl) W.z_tuple bt_tuple rfl) (by rfl) W.z_isinstance bt_isinstance (by decide)))))) (ss_cons (s_if (t_w (w_or (t_cmp (r_ne h64) (e_isi (e_var (pv 0)) (pe_bltn (by rfl) W.z_list bt_list rfl) (by rfl) W.z_isinstance bt_isinstance (by decide)) (e_isi (e_var (pv 1)) (pe_bltn (by rfl) W.z_list bt_list rfl) (by rfl) W.z_isinstance bt_isinstance (by decide)) (nomark _)) (w_or1 (t_cmp (r_ne h64) (e_isi (e_var (pv 0)) (pe_bltn (by rfl) W.z_tuple bt_tuple rfl) (by rfl) W.z_isinstance bt_isinstance (by decide)) (e_isi (e_var (pv 1)) (pe_bltn (by rfl) W.z_tuple bt_tuple rfl) (by rfl) W.z_isinstance bt_isinstance (by decide)) (nomark _))))) (ss_one (s_ret (e_c pe_bl fun F => .bl _))) ss_nil)
  (ss_one (s_ret (v_and (e_cmp (r_eq h64) (e_callB1 r_len (by rfl) W.z_len bt_len (e_var (pv 0))) (e_callB1 r_len (by rfl) W.z_len bt_len (e_var (pv 1))) (nomark _)) (v_one (e_callB1 (r_all rfl) (by rfl) W.z_all bt_all (e_lc rfl sc__law_same.nd (i_range1 (by rfl) W.z_range (a_cons (e_callB1 r_len (by rfl) W.z_len bt_len (e_var (pv 1))) a_nil)) (blkOk_by (N := ["actual", "due", "k"]) (own := [("k", 2)]) (sc := defScope s__law_same) (by decide +kernel)) (fun _ _ _ _ _ => (g_name (i := 2) sc__law_same.nd rfl (.inl rfl))) (fun _ _ _ _ _ => ts_nil) (fun _ _ _ _ _ => (f_callL SELF hr (by rfl) (l_here (e_subs (r_ix h1) (e_var (pv 0)) (e_var (pv 2)) fun _ _ => rfl) (a_cons (e_subs (r_ix h1) (e_var (pv 1)) (e_var (pv 2)) fun _ _ => rfl) a_nil)))) (by decide)))))))) ss_nil)
  (ss_cons (s_if (t_w (w_or (t_cmp r_is (e_var (pv 1)) (e_c pe_non fun F => .non) (nomark _)) (w_or1 (t_truth (e_isi (e_var (pv 1)) (pe_bltn (by rfl) W.z_bool bt_bool rfl) (by rfl) W.z_isinstance bt_isinstance (by decide)))))) (ss_one (s_ret (e_if (t_cmp r_is (e_var (pv 1)) (e_c pe_non fun F => .non) (nomark _)) (e_cmp r_is (e_var (pv 0)) (e_c pe_non fun F => .non) (nomark _)) (v_and (e_isi (e_var (pv 0)) (pe_bltn (by rfl) W.z_bool bt_bool rfl) (by rfl) W.z_isinstance bt_isinstance (by decide)) (v_one (e_cmp (r_eq h64) (e_var (pv 0)) (e_var (pv 1)) (nomark _))))))) ss_nil)
  (ss_cons (s_if (t_truth (e_isi (e_var (pv 1)) (pe_bltn (by rfl) W.z_str bt_str rfl) (by rfl) W.z_isinstance bt_isinstance (by decide))) (ss_one (s_ret (v_and (e_isi (e_var (pv 0)) (pe_bltn (by rfl) W.z_str bt_str rfl) (by rfl) W.z_isinstance bt_isinstance (by decide)) (v_one (e_cmp (r_eq h64) (e_var (pv 0)) (e_var (pv 1)) (nomark _)))))) ss_nil)
  (ss_one (s_ret (v_and (e_isi (e_var (pv 0)) (pe_bltn (by rfl) W.z_int bt_int rfl) (by rfl) W.z_isinstance bt_isinstance (by decide)) (v_and (v_not (e_isi (e_var (pv 0)) (pe_bltn (by rfl) W.z_bool bt_bool rfl) (by rfl) W.z_isinstance bt_isinstance (by decide))) (v_one (e_cmp (r_eq h64) (e_var (pv 0)) (e_var (pv 1)) (nomark _)))))))))) rfl rfl
    exact Z.mono (by omega)
def f__law_same : Fn := g__law_same 8
theorem ok__law_same (W : Fx K mg) {k : Nat} (hk : 9 ≤ k) : OkF P w K mg base "_law_same" ["actual", "due"] k (spD K true f__law_same) := (okg__law_same W 8).mono hk
/-! _law_core -/
abbrev s__law_core : Stmt := topS 25
theorem sc__law_core : FnScope ["feed", "ins", "wide", "most", "slots", "rows", "bits", "step", "outs", "order", "k", "shown", "kind", "free", "slot", "told", "other"] ["feed", "ins", "wide", "most"] (defScope s__law_core) := ⟨rfl, rfl, rfl, by decide +kernel, rfl, by decide +kernel, by decide +kernel⟩
def m__law_core : M Fl := sSeq (sSet 4 (lcM (srcR rng1 (aCons (eVar 1) (aNil))) [10] (gNm 10) (cYes) (eVar 10)))
  (sSeq (sSet 5 (eLst (aNil)))
  (sSeq (sSet 6 (eC (.int 0)))
  (sSeq (sFor (srcR rng1 (aCons (eFnL f__law_draw (lHere true (eVar 0) (aCons (bin true opAdd (eVar 3) (eC (.int 1))) (aNil)))) (aNil))) (gNm 7) (sSeq (sSet 12 (eFnL f__law_draw (lHere true (eVar 0) (aCons (eC (.int 10)) (aNil)))))
  (sSeq (sSet 13 (lcM (srcR rng1 (aCons (eC (.int 6)) (aNil))) [10] (gNm 10) (cOf (bin true opNotIn (eVar 10) (eVar 4))) (eVar 10)))
  (sIf (cAnd (cOr (cOf (bin true opEq (eVar 12) (eC (.int 0)))) (cOf (bin true opEq (un opLen (eVar 4)) (eC (.int 0))))) (cOf (bin true opLt (un opLen (eVar 4)) (eVar 2)))) (sSeq (sSet 14 (subs false opIx (eVar 13) (eFnL f__law_draw (lHere true (eVar 0) (aCons (un opLen (eVar 13)) (aNil))))))
  (sSeq (sExpr (mutM "list" true lAppend (eVar 5) (bConsF (eTup (aCons (eC (.str "new")) (aCons (eVar 14) (aNil)))) (bNil))))
  (sSet 4 (un opSorted (bin true opAdd (eVar 4) (eLst (aCons (eVar 14) (aNil)))))))) (sIf (cOf (bin true opGt (un opLen (eVar 4)) (eC (.int 0)))) (sSeq (sSet 14 (subs false opIx (eVar 4) (eFnL f__law_draw (lHere true (eVar 0) (aCons (un opLen (eVar 4)) (aNil))))))
  (sIf (cAnd (cOf (bin true opEq (eVar 12) (eC (.int 1)))) (cOf (bin true opLt (eVar 6) (eC (.int 4))))) (sSeq (sExpr (mutM "list" true lAppend (eVar 5) (bConsF (eTup (aCons (eC (.str "read")) (aCons (eVar 14) (aCons (eVar 6) (aNil))))) (bNil))))
  (sSeq (sAug 6 opAddI (eC (.int 1)))
  (sSet 4 (lcM (srcV T.asList (eVar 4)) [10] (gNm 10) (cOf (bin true opNe (eVar 10) (eVar 14))) (eVar 10))))) (sIf (cAnd (cOf (bin true opEq (eVar 12) (eC (.int 2)))) (cOf (bin true opGt (eVar 6) (eC (.int 0))))) (sSeq (sSet 15 (lcM (srcR rng1 (aCons (eVar 6) (aNil))) [10] (gNm 10) (cOf (bin true opEq (eFnL f__law_draw (lHere true (eVar 0) (aCons (eC (.int 2)) (aNil)))) (eC (.int 0)))) (eVar 10)))
  (sSeq (sIf (cOf (bin true opEq (un opLen (eVar 15)) (eC (.int 0)))) (sSet 15 (eLst (aCons (eFnL f__law_draw (lHere true (eVar 0) (aCons (eVar 6) (aNil)))) (aNil)))) (sNx))
  (sExpr (mutM "list" false lAppend (eVar 5) (bConsF (eTup (aCons (eC (.str "fix")) (aCons (subs false opIx (eC (.str "XYZ")) (eFnL f__law_draw (lHere true (eVar 0) (aCons (eC (.int 3)) (aNil))))) (aCons (eVar 14) (aCons (eVar 15) (aNil)))))) (bNil)))))) (sIf (cAnd (cOf (bin true opGt (eVar 12) (eC (.int 6)))) (cOf (bin true opGt (un opLen (eVar 4)) (eC (.int 1))))) (sSeq (sSet 16 (subs false opIx (lcM (srcV T.asList (eVar 4)) [10] (gNm 10) (cOf (bin true opNe (eVar 10) (eVar 14))) (eVar 10)) (eFnL f__law_draw (lHere true (eVar 0) (aCons (bin true opSub (un opLen (eVar 4)) (eC (.int 1))) (aNil))))))
  (sExpr (mutM "list" false lAppend (eVar 5) (bConsF (eTup (aCons (eC (.str "turn")) (aCons (subs false opIx (eLst (aCons (eC (.str "cx")) (aCons (eC (.str "cz")) (aCons (eC (.str "sw")) (aNil))))) (eFnL f__law_draw (lHere true (eVar 0) (aCons (eC (.int 3)) (aNil))))) (aCons (eLst (aCons (eVar 14) (aCons (eVar 16) (aNil)))) (aNil))))) (bNil))))) (sExpr (mutM "list" false lAppend (eVar 5) (bConsF (eTup (aCons (eC (.str "turn")) (aCons (subs false opIx (eLst (aCons (eC (.str "h")) (aCons (eC (.str "s")) (aCons (eC (.str "h")) (aCons (eC (.str "r")) (aCons (eC (.str "x")) (aCons (eC (.str "y")) (aCons (eC (.str "z")) (aNil))))))))) (eFnL f__law_draw (lHere true (eVar 0) (aCons (eC (.int 7)) (aNil))))) (aCons (eLst (aCons (eVar 14) (aNil))) (aNil))))) (bNil)))))))) (sNx))))))
  (sSeq (sSet 8 (un opListOf (eVar 4)))
  (sSeq (sSet 9 (eLst (aNil)))
  (sSeq (sFor (srcR rng1 (aCons (un opLen (eVar 8)) (aNil))) (gNm 10) (sExpr (mutM "list" false lAppend (eVar 9) (bConsF (mutM "list" false lPop (eVar 8) (bConsF (eFnL f__law_draw (lHere true (eVar 0) (aCons (un opLen (eVar 8)) (aNil)))) (bNil))) (bNil)))))
  (sSeq (sSet 11 (lcM (srcR rng1 (aCons (eVar 6) (aNil))) [10] (gNm 10) (cOf (bin true opGt (eFnL f__law_draw (lHere true (eVar 0) (aCons (eC (.int 3)) (aNil)))) (eC (.int 0)))) (eVar 10)))
  (sSeq (sIf (cOf (bin true opEq (eFnL f__law_draw (lHere true (eVar 0) (aCons (eC (.int 3)) (aNil)))) (eC (.int 0)))) (sSet 11 (un opRev (eVar 11))) (sNx))
  (sRet (eTup (aCons (eVar 1) (aCons (eVar 5) (aCons (eVar 9) (aCons (eVar 11) (aNil)))))))))))))))
def f__law_core : Fn := runFn 4 17 m__law_core
theorem ok__law_core (W : Fx K mg) {k : Nat} (hk : 2 ≤ k) : OkF P w K mg base "_law_core" ["feed", "ins", "wide", "most"] k (spD K false f__law_core) := by
  have Z : OkF P w K mg base "_law_core" ["feed", "ins", "wide", "most"] (1 + 1) (spD K false (runFn (List.length (α := Str) ["feed", "ins", "wide", "most"]) (List.length (α := Str) ["feed", "ins", "wide", "most", "slots", "rows", "bits", "step", "outs", "order", "k", "shown", "kind", "free", "slot", "told", "other"]) m__law_core)) := okF W.d__law_core sc__law_core fun f cdv A outer s H E hr => by
    have h64 := hr.units
    have h65 := u65 hr
    have h1 := hu_of hr
    exact PSs_as (ss_cons (s_set (i := 4) sc__law_core.nd rfl (.inr rfl) (e_lc rfl sc__law_core.nd (i_range1 (by rfl) W.z_range (a_cons (e_var (pv 1)) a_nil)) (blkOk_by (N := ["feed", "ins", "wide", "most", "slots", "rows", "bits", "step", "outs", "order", "k", "shown", "kind", "free", "slot", "told", "other"]) (own := [("k", 10)]) (sc := defScope s__law_core) (by decide +kernel)) (fun _ _ _ _ _ => (g_name (i := 10) sc__law_core.nd rfl (.inl rfl))) (fun _ _ _ _ _ => ts_nil) (fun _ _ _ _ _ => (e_var (pv 10))) (by decide)))
  (ss_cons (s_set (i := 5) sc__law_core.nd rfl (.inl rfl) (e_lst a_nil))
  (ss_cons (s_set (i := 6) sc__law_core.nd rfl (.inl rfl) (e_c pe_int fun F => .int _))
  (ss_cons (s_for PassesOwn.never rfl (i_range1 (by rfl) W.z_range (a_cons (f_callL (ok__law_draw (P := P) (w := w) (base := base) W (by omega)) hr (by rfl) (l_here (e_var (pv 0)) (a_cons (e_op r_add (e_var (pv 3)) (e_c pe_int fun F => .int _)) a_nil))) a_nil)) (g_name (i := 7) sc__law_core.nd rfl (.inl rfl)) (ss_cons (s_set (i := 12) sc__law_core.nd rfl (.inl rfl) (f_callL (ok__law_draw (P := P) (w := w) (base := base) W (by omega)) hr (by rfl) (l_here (e_var (pv 0)) (a_cons (e_c pe_int fun F => .int _) a_nil))))
  (ss_cons (s_setLc (i := 13) rfl sc__law_core.nd rfl rfl (i_range1 (by rfl) W.z_range (a_cons (e_c pe_int fun F => .int _) a_nil)) (blkOk_by (N := ["feed", "ins", "wide", "most", "slots", "rows", "bits", "step", "outs", "order", "k", "shown", "kind", "free", "slot", "told", "other"]) (own := [("k", 10)]) (sc := defScope s__law_core) (by decide +kernel)) (fun _ _ _ _ _ => (g_name (i := 10) sc__law_core.nd rfl (.inl rfl))) (fun _ _ _ _ _ => (ts_one (t_cmp (r_notIn h65) (e_var (pv 10)) (e_var (pv 4)) (by with_unfolding_all rfl)))) (fun _ _ _ _ _ => (e_var (pv 10))) (by decide) (by rfl))
  (ss_one (s_if (t_w (w_and (t_w (w_or (t_cmp (r_eq h64) (e_var (pv 12)) (e_c pe_int fun F => .int _) (nomark _)) (w_or1 (t_cmp (r_eq h64) (e_callB1 r_len (by rfl) W.z_len bt_len (e_var (pv 4))) (e_c pe_int fun F => .int _) (nomark _))))) (w_and1 (t_cmp r_lt (e_callB1 r_len (by rfl) W.z_len bt_len (e_var (pv 4))) (e_var (pv 2)) (nomark _))))) (ss_cons (s_set (i := 14) sc__law_core.nd rfl (.inr rfl) (e_subs (r_ix h1) (e_var (pv 13)) (f_callL (ok__law_draw (P := P) (w := w) (base := base) W (by omega)) hr (by rfl) (l_here (e_var (pv 0)) (a_cons (e_callB1 r_len (by rfl) W.z_len bt_len (e_var (pv 13))) a_nil))) fun _ _ => rfl))
  (ss_cons (s_expr (e_mut PySem.F.plainAttrs_list PySem.F.slot_list_append PySem.F.type_list_append ty_list m_append (e_var (pv 5)) (b_consF (e_tup (a_cons (e_c pe_str fun F => .str _) (a_cons (e_var (pv 14)) a_nil))) b_nil)))
  (ss_one (s_set (i := 4) sc__law_core.nd rfl (.inr rfl) (e_callB1 r_sorted (by rfl) W.z_sorted bt_sorted (e_op r_add (e_var (pv 4)) (e_lst (a_cons (e_var (pv 14)) a_nil)))))))) (ss_one (s_if (t_cmp r_gt (e_callB1 r_len (by rfl) W.z_len bt_len (e_var (pv 4))) (e_c pe_int fun F => .int _) (nomark _)) (ss_cons (s_set (i := 14) sc__law_core.nd rfl (.inr rfl) (e_subs (r_ix h1) (e_var (pv 4)) (f_callL (ok__law_draw (P := P) (w := w) (base := base) W (by omega)) hr (by rfl) (l_here (e_var (pv 0)) (a_cons (e_callB1 r_len (by rfl) W.z_len bt_len (e_var (pv 4))) a_nil))) fun _ _ => rfl))
  (ss_one (s_if (t_w (w_and (t_cmp (r_eq h64) (e_var (pv 12)) (e_c pe_int fun F => .int _) (nomark _)) (w_and1 (t_cmp r_lt (e_var (pv 6)) (e_c pe_int fun F => .int _) (nomark _))))) (ss_cons (s_expr (e_mut PySem.F.plainAttrs_list PySem.F.slot_list_append PySem.F.type_list_append ty_list m_append (e_var (pv 5)) (b_consF (e_tup (a_cons (e_c pe_str fun F => .str _) (a_cons (e_var (pv 14)) (a_cons (e_var (pv 6)) a_nil)))) b_nil)))
  (ss_cons (s_aug (i := 6) sc__law_core.nd rfl (.inl rfl) (e_c pe_int fun F => .int _) i_add)
  (ss_one (s_set (i := 4) sc__law_core.nd rfl (.inr rfl) (e_lc rfl sc__law_core.nd (i_list (e_var (pv 4))) (blkOk_by (N := ["feed", "ins", "wide", "most", "slots", "rows", "bits", "step", "outs", "order", "k", "shown", "kind", "free", "slot", "told", "other"]) (own := [("k", 10)]) (sc := defScope s__law_core) (by decide +kernel)) (fun _ _ _ _ _ => (g_name (i := 10) sc__law_core.nd rfl (.inl rfl))) (fun _ _ _ _ _ => (ts_one (t_cmp (r_ne h64) (e_var (pv 10)) (e_var (pv 14)) (nomark _)))) (fun _ _ _ _ _ => (e_var (pv 10))) (by decide)))))) (ss_one (s_if (t_w (w_and (t_cmp (r_eq h64) (e_var (pv 12)) (e_c pe_int fun F => .int _) (nomark _)) (w_and1 (t_cmp r_gt (e_var (pv 6)) (e_c pe_int fun F => .int _) (nomark _))))) (ss_cons (s_setLc (i := 15) rfl sc__law_core.nd rfl rfl (i_range1 (by rfl) W.z_range (a_cons (e_var (pv 6)) a_nil)) (blkOk_by (N := ["feed", "ins", "wide", "most", "slots", "rows", "bits", "step", "outs", "order", "k", "shown", "kind", "free", "slot", "told", "other"]) (own := [("k", 10)]) (sc := defScope s__law_core) (by decide +kernel)) (fun _ _ _ _ _ => (g_name (i := 10) sc__law_core.nd rfl (.inl rfl))) (fun _ _ _ _ _ => (ts_one (t_cmp (r_eq h64) (f_callL (ok__law_draw (P := P) (w := w) (base := base) W (by omega)) hr (by rfl) (l_here (e_var (pv 0)) (a_cons (e_c pe_int fun F => .int _) a_nil))) (e_c pe_int fun F => .int _) (nomark _)))) (fun _ _ _ _ _ => (e_var (pv 10))) (by decide) (by rfl))
  (ss_cons (s_if (t_cmp (r_eq h64) (e_callB1 r_len (by rfl) W.z_len bt_len (e_var (pv 15))) (e_c pe_int fun F => .int _) (nomark _)) (ss_one (s_set (i := 15) sc__law_core.nd rfl (.inl rfl) (e_lst (a_cons (f_callL (ok__law_draw (P := P) (w := w) (base := base) W (by omega)) hr (by rfl) (l_here (e_var (pv 0)) (a_cons (e_var (pv 6)) a_nil))) a_nil)))) ss_nil)
  (ss_one (s_expr (e_mut PySem.F.plainAttrs_list PySem.F.slot_list_append PySem.F.type_list_append ty_list m_append (e_var (pv 5)) (b_consF (e_tup (a_cons (e_c pe_str fun F => .str _) (a_cons (e_subs (r_ix h1) (e_c pe_str fun F => .str _) (f_callL (ok__law_draw (P := P) (w := w) (base := base) W (by omega)) hr (by rfl) (l_here (e_var (pv 0)) (a_cons (e_c pe_int fun F => .int _) a_nil))) fun _ _ => rfl) (a_cons (e_var (pv 14)) (a_cons (e_var (pv 15)) a_nil))))) b_nil)))))) (ss_one (s_if (t_w (w_and (t_cmp r_gt (e_var (pv 12)) (e_c pe_int fun F => .int _) (nomark _)) (w_and1 (t_cmp r_gt (e_callB1 r_len (by rfl) W.z_len bt_len (e_var (pv 4))) (e_c pe_int fun F => .int _) (nomark _))))) (ss_cons (s_set (i := 16) sc__law_core.nd rfl (.inl rfl) (e_subs (r_ix h1) (e_lc rfl sc__law_core.nd (i_list (e_var (pv 4))) (blkOk_by (N := ["feed", "ins", "wide", "most", "slots", "rows", "bits", "step", "outs", "order", "k", "shown", "kind", "free", "slot", "told", "other"]) (own := [("k", 10)]) (sc := defScope s__law_core) (by decide +kernel)) (fun _ _ _ _ _ => (g_name (i := 10) sc__law_core.nd rfl (.inl rfl))) (fun _ _ _ _ _ => (ts_one (t_cmp (r_ne h64) (e_var (pv 10)) (e_var (pv 14)) (nomark _)))) (fun _ _ _ _ _ => (e_var (pv 10))) (by decide)) (f_callL (ok__law_draw (P := P) (w := w) (base := base) W (by omega)) hr (by rfl) (l_here (e_var (pv 0)) (a_cons (e_op r_sub (e_callB1 r_len (by rfl) W.z_len bt_len (e_var (pv 4))) (e_c pe_int fun F => .int _)) a_nil))) fun _ _ => rfl))
  (ss_one (s_expr (e_mut PySem.F.plainAttrs_list PySem.F.slot_list_append PySem.F.type_list_append ty_list m_append (e_var (pv 5)) (b_consF (e_tup (a_cons (e_c pe_str fun F => .str _) (a_cons (e_subs (r_ix h1) (e_lst (a_cons (e_c pe_str fun F => .str _) (a_cons (e_c pe_str fun F => .str _) (a_cons (e_c pe_str fun F => .str _) a_nil)))) (f_callL (ok__law_draw (P := P) (w := w) (base := base) W (by omega)) hr (by rfl) (l_here (e_var (pv 0)) (a_cons (e_c pe_int fun F => .int _) a_nil))) fun _ _ => rfl) (a_cons (e_lst (a_cons (e_var (pv 14)) (a_cons (e_var (pv 16)) a_nil))) a_nil)))) b_nil))))) (ss_one (s_expr (e_mut PySem.F.plainAttrs_list PySem.F.slot_list_append PySem.F.type_list_append ty_list m_append (e_var (pv 5)) (b_consF (e_tup (a_cons (e_c pe_str fun F => .str _) (a_cons (e_subs (r_ix h1) (e_lst (a_cons (e_c pe_str fun F => .str _) (a_cons (e_c pe_str fun F => .str _) (a_cons (e_c pe_str fun F => .str _) (a_cons (e_c pe_str fun F => .str _) (a_cons (e_c pe_str fun F => .str _) (a_cons (e_c pe_str fun F => .str _) (a_cons (e_c pe_str fun F => .str _) a_nil)))))))) (f_callL (ok__law_draw (P := P) (w := w) (base := base) W (by omega)) hr (by rfl) (l_here (e_var (pv 0)) (a_cons (e_c pe_int fun F => .int _) a_nil))) fun _ _ => rfl) (a_cons (e_lst (a_cons (e_var (pv 14)) a_nil)) a_nil)))) b_nil))))))))))) ss_nil)))))))
  (ss_cons (s_set (i := 8) sc__law_core.nd rfl (.inl rfl) (e_callTy1 r_listOf (by rfl) W.z_list bt_list (e_var (pv 4))))
  (ss_cons (s_set (i := 9) sc__law_core.nd rfl (.inl rfl) (e_lst a_nil))
  (ss_cons (s_for PassesOwn.never rfl (i_range1 (by rfl) W.z_range (a_cons (e_callB1 r_len (by rfl) W.z_len bt_len (e_var (pv 8))) a_nil)) (g_name (i := 10) sc__law_core.nd rfl (.inl rfl)) (ss_one (s_expr (e_mut PySem.F.plainAttrs_list PySem.F.slot_list_append PySem.F.type_list_append ty_list m_append (e_var (pv 9)) (b_consF (e_mut PySem.F.plainAttrs_list PySem.F.slot_list_pop PySem.F.type_list_pop ty_list m_pop (e_var (pv 8)) (b_consF (f_callL (ok__law_draw (P := P) (w := w) (base := base) W (by omega)) hr (by rfl) (l_here (e_var (pv 0)) (a_cons (e_callB1 r_len (by rfl) W.z_len bt_len (e_var (pv 8))) a_nil))) b_nil)) b_nil)))))
  (ss_cons (s_setLc (i := 11) rfl sc__law_core.nd rfl rfl (i_range1 (by rfl) W.z_range (a_cons (e_var (pv 6)) a_nil)) (blkOk_by (N := ["feed", "ins", "wide", "most", "slots", "rows", "bits", "step", "outs", "order", "k", "shown", "kind", "free", "slot", "told", "other"]) (own := [("k", 10)]) (sc := defScope s__law_core) (by decide +kernel)) (fun _ _ _ _ _ => (g_name (i := 10) sc__law_core.nd rfl (.inl rfl))) (fun _ _ _ _ _ => (ts_one (t_cmp r_gt (f_callL (ok__law_draw (P := P) (w := w) (base := base) W (by omega)) hr (by rfl) (l_here (e_var (pv 0)) (a_cons (e_c pe_int fun F => .int _) a_nil))) (e_c pe_int fun F => .int _) (nomark _)))) (fun _ _ _ _ _ => (e_var (pv 10))) (by decide) (by rfl))
  (ss_cons (s_if (t_cmp (r_eq h64) (f_callL (ok__law_draw (P := P) (w := w) (base := base) W (by omega)) hr (by rfl) (l_here (e_var (pv 0)) (a_cons (e_c pe_int fun F => .int _) a_nil))) (e_c pe_int fun F => .int _) (nomark _)) (ss_one (s_set (i := 11) sc__law_core.nd rfl (.inl rfl) (e_rev (e_var (pv 11))))) ss_nil)
  (ss_one (s_ret (e_tup (a_cons (e_var (pv 1)) (a_cons (e_var (pv 5)) (a_cons (e_var (pv 9)) (a_cons (e_var (pv 11)) a_nil)))))))))))))))) rfl rfl
  exact Z.mono hk
/-! _law_are_rows -/
abbrev s__law_are_rows : Stmt := topS 26
theorem sc__law_are_rows : FnScope ["many", "value", "k", "x"] ["many", "value"] (defScope s__law_are_rows) := ⟨rfl, rfl, rfl, by decide +kernel, rfl, by decide +kernel, by decide +kernel⟩
def m__law_are_rows : M Fl := sSeq (sIf (cOr (cNot (cTru (un (opIsi "list") (eVar 1)))) (cOf (bin true opNe (un opLen (lcM (srcV T.asList (eVar 1)) [3] (gNm 3) (cAnd (cTru (eFn f__law_whole (aCons (eVar 3) (aNil)))) (cOf (chainM true true opLe opLt (eC (.int 0)) (eVar 3) (eVar 0)))) (eVar 3))) (un opLen (eVar 1))))) (sRet (eC (.bool false))) (sNx))
  (sRet (bin true opEq (un opLen (lcM (srcR rng2 (aCons (eC (.int 1)) (aCons (un opLen (eVar 1)) (aNil)))) [2] (gNm 2) (cOf (bin true opGe (subs true opIx (eVar 1) (bin true opSub (eVar 2) (eC (.int 1)))) (subs true opIx (eVar 1) (eVar 2)))) (eVar 2))) (eC (.int 0))))
def f__law_are_rows : Fn := runFn 2 4 m__law_are_rows
theorem ok__law_are_rows (W : Fx K mg) {k : Nat} (hk : 2 ≤ k) : OkF P w K mg base "_law_are_rows" ["many", "value"] k (spD K true f__law_are_rows) := by
  have Z : OkF P w K mg base "_law_are_rows" ["many", "value"] (1 + 1) (spD K true (runFn (List.length (α := Str) ["many", "value"]) (List.length (α := Str) ["many", "value", "k", "x"]) m__law_are_rows)) := okF W.d__law_are_rows sc__law_are_rows fun f cdv A outer s H E hr => by
    have h64 := hr.units
    have h65 := u65 hr
    have h1 := hu_of hr
    exact PSs_as (ss_cons (s_if (t_w (w_or (t_not (t_truth (e_isi (e_var (pv 1)) (pe_bltn (by rfl) W.z_list bt_list rfl) (by rfl) W.z_isinstance bt_isinstance (by decide)))) (w_or1 (t_cmp (r_ne h64) (e_callB1 r_len (by rfl) W.z_len bt_len (e_lc rfl sc__law_are_rows.nd (i_list (e_var (pv 1))) (blkOk_by (N := ["many", "value", "k", "x"]) (own := [("x", 3)]) (sc := defScope s__law_are_rows) (by decide +kernel)) (fun _ _ _ _ _ => (g_name (i := 3) sc__law_are_rows.nd rfl (.inl rfl))) (fun _ _ _ _ _ => (ts_one (t_w (w_and (t_truth (f_call (ok__law_whole (P := P) (w := w) (base := base) W (by omega)) hr (by rfl) (a_cons (e_var (pv 3)) a_nil))) (w_and1 (t_chain r_le r_lt (e_c pe_int fun F => .int _) (e_var (pv 3)) (e_var (pv 0)))))))) (fun _ _ _ _ _ => (e_var (pv 3))) (by decide))) (e_callB1 r_len (by rfl) W.z_len bt_len (e_var (pv 1))) (nomark _))))) (ss_one (s_ret (e_c pe_bl fun F => .bl _))) ss_nil)
  (ss_one (s_ret (e_cmp (r_eq h64) (e_callB1 r_len (by rfl) W.z_len bt_len (e_lc rfl sc__law_are_rows.nd (i_range2 (by rfl) W.z_range (a_cons (e_c pe_int fun F => .int _) (a_cons (e_callB1 r_len (by rfl) W.z_len bt_len (e_var (pv 1))) a_nil))) (blkOk_by (N := ["many", "value", "k", "x"]) (own := [("k", 2)]) (sc := defScope s__law_are_rows) (by decide +kernel)) (fun _ _ _ _ _ => (g_name (i := 2) sc__law_are_rows.nd rfl (.inl rfl))) (fun _ _ _ _ _ => (ts_one (t_cmp r_ge (e_subs (r_ix h1) (e_var (pv 1)) (e_op r_sub (e_var (pv 2)) (e_c pe_int fun F => .int _)) fun _ _ => rfl) (e_subs (r_ix h1) (e_var (pv 1)) (e_var (pv 2)) fun _ _ => rfl) (nomark _)))) (fun _ _ _ _ _ => (e_var (pv 2))) (by decide))) (e_c pe_int fun F => .int _) (nomark _))))) rfl rfl
  exact Z.mono hk
/-! _law_is_chain -/
abbrev s__law_is_chain : Stmt := topS 27
theorem sc__law_is_chain : FnScope ["rows", "value", "k"] ["rows", "value"] (defScope s__law_is_chain) := ⟨rfl, rfl, rfl, by decide +kernel, rfl, by decide +kernel, by decide +kernel⟩
def m__law_is_chain : M Fl := sSeq (sIf (cNot (cTru (eFn f__law_are_rows (aCons (un opLen (eVar 0)) (aCons (eVar 1) (aNil)))))) (sRet (eC (.bool false))) (sNx))
  (sRet (bin true opEq (un opLen (lcM (srcR rng2 (aCons (eC (.int 1)) (aCons (un opLen (eVar 1)) (aNil)))) [2] (gNm 2) (cNot (cTru (eFn f__law_hang (aCons (subs true opIx (eVar 0) (subs true opIx (eVar 1) (bin true opSub (eVar 2) (eC (.int 1))))) (aCons (subs true opIx (eVar 0) (subs true opIx (eVar 1) (eVar 2))) (aNil)))))) (eVar 2))) (eC (.int 0))))
def f__law_is_chain : Fn := runFn 2 3 m__law_is_chain
theorem ok__law_is_chain (W : Fx K mg) {k : Nat} (hk : 4 ≤ k) : OkF P w K mg base "_law_is_chain" ["rows", "value"] k (spD K true f__law_is_chain) := by
  have Z : OkF P w K mg base "_law_is_chain" ["rows", "value"] (3 + 1) (spD K true (runFn (List.length (α := Str) ["rows", "value"]) (List.length (α := Str) ["rows", "value", "k"]) m__law_is_chain)) := okF W.d__law_is_chain sc__law_is_chain fun f cdv A outer s H E hr => by
    have h64 := hr.units
    have h65 := u65 hr
    have h1 := hu_of hr
    exact PSs_as (ss_cons (s_if (t_not (t_truth (f_call (ok__law_are_rows (P := P) (w := w) (base := base) W (by omega)) hr (by rfl) (a_cons (e_callB1 r_len (by rfl) W.z_len bt_len (e_var (pv 0))) (a_cons (e_var (pv 1)) a_nil))))) (ss_one (s_ret (e_c pe_bl fun F => .bl _))) ss_nil)
  (ss_one (s_ret (e_cmp (r_eq h64) (e_callB1 r_len (by rfl) W.z_len bt_len (e_lc rfl sc__law_is_chain.nd (i_range2 (by rfl) W.z_range (a_cons (e_c pe_int fun F => .int _) (a_cons (e_callB1 r_len (by rfl) W.z_len bt_len (e_var (pv 1))) a_nil))) (blkOk_by (N := ["rows", "value", "k"]) (own := [("k", 2)]) (sc := defScope s__law_is_chain) (by decide +kernel)) (fun _ _ _ _ _ => (g_name (i := 2) sc__law_is_chain.nd rfl (.inl rfl))) (fun _ _ _ _ _ => (ts_one (t_not (t_truth (f_call (ok__law_hang (P := P) (w := w) (base := base) W (by omega)) hr (by rfl) (a_cons (e_subs (r_ix h1) (e_var (pv 0)) (e_subs (r_ix h1) (e_var (pv 1)) (e_op r_sub (e_var (pv 2)) (e_c pe_int fun F => .int _)) fun _ _ => rfl) fun _ _ => rfl) (a_cons (e_subs (r_ix h1) (e_var (pv 0)) (e_subs (r_ix h1) (e_var (pv 1)) (e_var (pv 2)) fun _ _ => rfl) fun _ _ => rfl) a_nil))))))) (fun _ _ _ _ _ => (e_var (pv 2))) (by decide))) (e_c pe_int fun F => .int _) (nomark _))))) rfl rfl
  exact Z.mono hk
/-! _law_are_steps -/
abbrev s__law_are_steps : Stmt := topS 28
theorem sc__law_are_steps : FnScope ["rows", "value", "where", "level", "j", "k", "step", "i"] ["rows", "value"] (defScope s__law_are_steps) := ⟨rfl, rfl, rfl, by decide +kernel, rfl, by decide +kernel, by decide +kernel⟩
def m__law_are_steps : M Fl := sSeq (sIf (cOr (cNot (cTru (un (opIsi "list") (eVar 1)))) (cOf (bin true opGt (un opLen (lcM (srcV T.asList (eVar 1)) [6] (gNm 6) (cNot (cTru (eFn f__law_are_rows (aCons (un opLen (eVar 0)) (aCons (eVar 6) (aNil)))))) (eVar 6))) (eC (.int 0))))) (sRet (eC (.bool false))) (sNx))
  (sSeq (sSet 2 (eDic))
  (sSeq (sFor (srcR rng1 (aCons (un opLen (eVar 1)) (aNil))) (gNm 3) (sFor (srcV T.asList (subs true opIx (eVar 1) (eVar 3))) (gNm 5) (sSeq (sIf (cOf (bin true opIn (eVar 5) (eVar 2))) (sRet (eC (.bool false))) (sNx))
  (sPut true putAny (eVar 3) (eVar 2) (eVar 5)))))
  (sSeq (sIf (cOf (bin true opNe (un opLen (eVar 2)) (un opLen (eVar 0)))) (sRet (eC (.bool false))) (sNx))
  (sSeq (sFor (srcR rng1 (aCons (un opLen (eVar 0)) (aNil))) (gNm 4) (sIf (cOf (bin true opGt (un opLen (lcM (srcR rng1 (aCons (eVar 4) (aNil))) [7] (gNm 7) (cAnd (cTru (eFn f__law_hang (aCons (subs true opIx (eVar 0) (eVar 7)) (aCons (subs true opIx (eVar 0) (eVar 4)) (aNil))))) (cOf (bin true opGe (subs true opIx (eVar 2) (eVar 7)) (subs true opIx (eVar 2) (eVar 4))))) (eVar 7))) (eC (.int 0)))) (sRet (eC (.bool false))) (sNx)))
  (sRet (eC (.bool true)))))))
def f__law_are_steps : Fn := runFn 2 8 m__law_are_steps
theorem ok__law_are_steps (W : Fx K mg) {k : Nat} (hk : 4 ≤ k) : OkF P w K mg base "_law_are_steps" ["rows", "value"] k (spD K false f__law_are_steps) := by
  have Z : OkF P w K mg base "_law_are_steps" ["rows", "value"] (3 + 1) (spD K false (runFn (List.length (α := Str) ["rows", "value"]) (List.length (α := Str) ["rows", "value", "where", "level", "j", "k", "step", "i"]) m__law_are_steps)) := okF W.d__law_are_steps sc__law_are_steps fun f cdv A outer s H E hr => by
    have h64 := hr.units
    have h65 := u65 hr
    have h1 := hu_of hr
    exact PSs_as (ss_cons (s_if (t_w (w_or (t_not (t_truth (e_isi (e_var (pv 1)) (pe_bltn (by rfl) W.z_list bt_list rfl) (by rfl) W.z_isinstance bt_isinstance (by decide)))) (w_or1 (t_cmp r_gt (e_callB1 r_len (by rfl) W.z_len bt_len (e_lc rfl sc__law_are_steps.nd (i_list (e_var (pv 1))) (blkOk_by (N := ["rows", "value", "where", "level", "j", "k", "step", "i"]) (own := [("step", 6)]) (sc := defScope s__law_are_steps) (by decide +kernel)) (fun _ _ _ _ _ => (g_name (i := 6) sc__law_are_steps.nd rfl (.inl rfl))) (fun _ _ _ _ _ => (ts_one (t_not (t_truth (f_call (ok__law_are_rows (P := P) (w := w) (base := base) W (by omega)) hr (by rfl) (a_cons (e_callB1 r_len (by rfl) W.z_len bt_len (e_var (pv 0))) (a_cons (e_var (pv 6)) a_nil))))))) (fun _ _ _ _ _ => (e_var (pv 6))) (by decide))) (e_c pe_int fun F => .int _) (nomark _))))) (ss_one (s_ret (e_c pe_bl fun F => .bl _))) ss_nil)
  (ss_cons (s_set (i := 2) sc__law_are_steps.nd rfl (.inr rfl) e_dic)
  (ss_cons (s_for PassesOwn.never rfl (i_range1 (by rfl) W.z_range (a_cons (e_callB1 r_len (by rfl) W.z_len bt_len (e_var (pv 1))) a_nil)) (g_name (i := 3) sc__law_are_steps.nd rfl (.inl rfl)) (ss_one (s_for PassesOwn.never rfl (i_list (e_subs (r_ix h1) (e_var (pv 1)) (e_var (pv 3)) fun _ _ => rfl)) (g_name (i := 5) sc__law_are_steps.nd rfl (.inl rfl)) (ss_cons (s_if (t_cmp (r_in h65) (e_var (pv 5)) (e_var (pv 2)) (by with_unfolding_all rfl)) (ss_one (s_ret (e_c pe_bl fun F => .bl _))) ss_nil)
  (ss_one (s_put (p_any h1) (e_var (pv 3)) (e_var (pv 2)) (e_var (pv 5))))))))
  (ss_cons (s_if (t_cmp (r_ne h64) (e_callB1 r_len (by rfl) W.z_len bt_len (e_var (pv 2))) (e_callB1 r_len (by rfl) W.z_len bt_len (e_var (pv 0))) (nomark _)) (ss_one (s_ret (e_c pe_bl fun F => .bl _))) ss_nil)
  (ss_cons (s_for PassesOwn.never rfl (i_range1 (by rfl) W.z_range (a_cons (e_callB1 r_len (by rfl) W.z_len bt_len (e_var (pv 0))) a_nil)) (g_name (i := 4) sc__law_are_steps.nd rfl (.inr rfl)) (ss_one (s_if (t_cmp r_gt (e_callB1 r_len (by rfl) W.z_len bt_len (e_lc rfl sc__law_are_steps.nd (i_range1 (by rfl) W.z_range (a_cons (e_var (pv 4)) a_nil)) (blkOk_by (N := ["rows", "value", "where", "level", "j", "k", "step", "i"]) (own := [("i", 7)]) (sc := defScope s__law_are_steps) (by decide +kernel)) (fun _ _ _ _ _ => (g_name (i := 7) sc__law_are_steps.nd rfl (.inl rfl))) (fun _ _ _ _ _ => (ts_one (t_w (w_and (t_truth (f_call (ok__law_hang (P := P) (w := w) (base := base) W (by omega)) hr (by rfl) (a_cons (e_subs (r_ix h1) (e_var (pv 0)) (e_var (pv 7)) fun _ _ => rfl) (a_cons (e_subs (r_ix h1) (e_var (pv 0)) (e_var (pv 4)) fun _ _ => rfl) a_nil)))) (w_and1 (t_cmp r_ge (e_subs (r_ix h1) (e_var (pv 2)) (e_var (pv 7)) fun _ _ => rfl) (e_subs (r_ix h1) (e_var (pv 2)) (e_var (pv 4)) fun _ _ => rfl) (nomark _))))))) (fun _ _ _ _ _ => (e_var (pv 7))) (by decide))) (e_c pe_int fun F => .int _) (nomark _)) (ss_one (s_ret (e_c pe_bl fun F => .bl _))) ss_nil)))
  (ss_one (s_ret (e_c pe_bl fun F => .bl _)))))))) rfl rfl
  exact Z.mono hk
/-! _law_bent -/
abbrev s__law_bent : Stmt := topS 29
theorem sc__law_bent : FnScope ["feed", "many", "value", "found", "at", "to", "changed", "x"] ["feed", "many", "value"] (defScope s__law_bent) := ⟨rfl, rfl, rfl, by decide +kernel, rfl, by decide +kernel, by decide +kernel⟩
def m__law_bent : M Fl := sSeq (sSet 3 (eLst (aCons (eVar 2) (aCons (un opRev (eVar 2)) (aCons (sliceT opSl true (eVar 2) (oSome (eC (.int 1))) (oNone)) (aCons (sliceT opSl true (eVar 2) (oNone) (oSome (un opNeg (eC (.int 1))))) (aCons (bin true opAdd (eVar 2) (sliceT opSl true (eVar 2) (oNone) (oSome (eC (.int 1))))) (aCons (un opTupOf (eVar 2)) (aCons (eC .none) (aCons (eC (.bool true)) (aCons (eC (.str "0")) (aCons (eLst (aNil)) (aCons (eLst (aCons (eVar 2) (aNil))) (aNil))))))))))))))
  (sSeq (sIf (cOf (bin true opGt (un opLen (eVar 2)) (eC (.int 0)))) (sSeq (sSet 4 (eFnL f__law_draw (lHere true (eVar 0) (aCons (un opLen (eVar 2)) (aNil)))))
  (sSeq (sSet 5 (eFnL f__law_draw (lHere true (eVar 0) (aCons (un opLen (eVar 2)) (aNil)))))
  (sSeq (sSet 6 (un opListOf (eVar 2)))
  (sSeq (sPut true putAny (subs true opIx (eVar 2) (eVar 5)) (eVar 6) (eVar 4))
  (sSeq (sPut true putAny (subs true opIx (eVar 2) (eVar 4)) (eVar 6) (eVar 5))
  (sSeq (sExpr (mutM "list" true lAppend (eVar 3) (bConsF (eVar 6) (bNil))))
  (sSeq (sFor (srcV T.asList (eLst (aCons (eVar 1) (aCons (un opNeg (eC (.int 1))) (aCons (eC .none) (aCons (eC (.bool true)) (aCons (eC (.str "0")) (aCons (eLst (aNil)) (aCons (eLst (aCons (eVar 1) (aNil))) (aCons (eLst (aCons (eC (.int 0)) (aNil))) (aCons (eC (.int 0)) (aCons (eFnL f__law_draw (lHere true (eVar 0) (aCons (bin true opAdd (eVar 1) (eC (.int 1))) (aNil)))) (aCons (subs true opIx (eVar 2) (eVar 5)) (aNil)))))))))))))) (gNm 7) (sExpr (mutM "list" true lAppend (eVar 3) (bConsF (bin true opAdd (bin true opAdd (sliceT opSl true (eVar 2) (oNone) (oSome (eVar 4))) (eLst (aCons (eVar 7) (aNil)))) (sliceT opSl true (eVar 2) (oSome (bin true opAdd (eVar 4) (eC (.int 1)))) (oNone))) (bNil)))))
  (sExpr (mutM "list" true lAppend (eVar 3) (bConsF (bin true opAdd (bin true opAdd (sliceT opSl true (eVar 2) (oNone) (oSome (eVar 4))) (eLst (aCons (eLst (aNil)) (aNil)))) (sliceT opSl true (eVar 2) (oSome (eVar 4)) (oNone))) (bNil))))))))))) (sNx))
  (sRet (eVar 3)))
def f__law_bent : Fn := runFn 3 8 m__law_bent
theorem ok__law_bent (W : Fx K mg) {k : Nat} (hk : 2 ≤ k) : OkF P w K mg base "_law_bent" ["feed", "many", "value"] k (spD K false f__law_bent) := by
  have Z : OkF P w K mg base "_law_bent" ["feed", "many", "value"] (1 + 1) (spD K false (runFn (List.length (α := Str) ["feed", "many", "value"]) (List.length (α := Str) ["feed", "many", "value", "found", "at", "to", "changed", "x"]) m__law_bent)) := okF W.d__law_bent sc__law_bent fun f cdv A outer s H E hr => by
    have h64 := hr.units
    have h65 := u65 hr
    have h1 := hu_of hr
    exact PSs_as (ss_cons (s_set (i := 3) sc__law_bent.nd rfl (.inl rfl) (e_lst (a_cons (e_var (pv 2)) (a_cons (e_rev (e_var (pv 2))) (a_cons (e_slice r_sl (e_var (pv 2)) (o_some (e_c pe_int fun F => .int _)) o_none) (a_cons (e_slice r_sl (e_var (pv 2)) o_none (o_some (e_un r_neg (e_c pe_int fun F => .int _)))) (a_cons (e_op r_add (e_var (pv 2)) (e_slice r_sl (e_var (pv 2)) o_none (o_some (e_c pe_int fun F => .int _)))) (a_cons (e_callTy1 r_tupOf (by rfl) W.z_tuple bt_tuple (e_var (pv 2))) (a_cons (e_c pe_non fun F => .non) (a_cons (e_c pe_bl fun F => .bl _) (a_cons (e_c pe_str fun F => .str _) (a_cons (e_lst a_nil) (a_cons (e_lst (a_cons (e_var (pv 2)) a_nil)) a_nil)))))))))))))
  (ss_cons (s_if (t_cmp r_gt (e_callB1 r_len (by rfl) W.z_len bt_len (e_var (pv 2))) (e_c pe_int fun F => .int _) (nomark _)) (ss_cons (s_set (i := 4) sc__law_bent.nd rfl (.inl rfl) (f_callL (ok__law_draw (P := P) (w := w) (base := base) W (by omega)) hr (by rfl) (l_here (e_var (pv 0)) (a_cons (e_callB1 r_len (by rfl) W.z_len bt_len (e_var (pv 2))) a_nil))))
  (ss_cons (s_set (i := 5) sc__law_bent.nd rfl (.inl rfl) (f_callL (ok__law_draw (P := P) (w := w) (base := base) W (by omega)) hr (by rfl) (l_here (e_var (pv 0)) (a_cons (e_callB1 r_len (by rfl) W.z_len bt_len (e_var (pv 2))) a_nil))))
  (ss_cons (s_set (i := 6) sc__law_bent.nd rfl (.inl rfl) (e_callTy1 r_listOf (by rfl) W.z_list bt_list (e_var (pv 2))))
  (ss_cons (s_put (p_any h1) (e_subs (r_ix h1) (e_var (pv 2)) (e_var (pv 5)) fun _ _ => rfl) (e_var (pv 6)) (e_var (pv 4)))
  (ss_cons (s_put (p_any h1) (e_subs (r_ix h1) (e_var (pv 2)) (e_var (pv 4)) fun _ _ => rfl) (e_var (pv 6)) (e_var (pv 5)))
  (ss_cons (s_expr (e_mut PySem.F.plainAttrs_list PySem.F.slot_list_append PySem.F.type_list_append ty_list m_append (e_var (pv 3)) (b_consF (e_var (pv 6)) b_nil)))
  (ss_cons (s_for PassesOwn.never rfl (i_list (e_lst (a_cons (e_var (pv 1)) (a_cons (e_un r_neg (e_c pe_int fun F => .int _)) (a_cons (e_c pe_non fun F => .non) (a_cons (e_c pe_bl fun F => .bl _) (a_cons (e_c pe_str fun F => .str _) (a_cons (e_lst a_nil) (a_cons (e_lst (a_cons (e_var (pv 1)) a_nil)) (a_cons (e_lst (a_cons (e_c pe_int fun F => .int _) a_nil)) (a_cons (e_c pe_int fun F => .int _) (a_cons (f_callL (ok__law_draw (P := P) (w := w) (base := base) W (by omega)) hr (by rfl) (l_here (e_var (pv 0)) (a_cons (e_op r_add (e_var (pv 1)) (e_c pe_int fun F => .int _)) a_nil))) (a_cons (e_subs (r_ix h1) (e_var (pv 2)) (e_var (pv 5)) fun _ _ => rfl) a_nil))))))))))))) (g_name (i := 7) sc__law_bent.nd rfl (.inl rfl)) (ss_one (s_expr (e_mut PySem.F.plainAttrs_list PySem.F.slot_list_append PySem.F.type_list_append ty_list m_append (e_var (pv 3)) (b_consF (e_op r_add (e_op r_add (e_slice r_sl (e_var (pv 2)) o_none (o_some (e_var (pv 4)))) (e_lst (a_cons (e_var (pv 7)) a_nil))) (e_slice r_sl (e_var (pv 2)) (o_some (e_op r_add (e_var (pv 4)) (e_c pe_int fun F => .int _))) o_none)) b_nil)))))
  (ss_one (s_expr (e_mut PySem.F.plainAttrs_list PySem.F.slot_list_append PySem.F.type_list_append ty_list m_append (e_var (pv 3)) (b_consF (e_op r_add (e_op r_add (e_slice r_sl (e_var (pv 2)) o_none (o_some (e_var (pv 4)))) (e_lst (a_cons (e_lst a_nil) a_nil))) (e_slice r_sl (e_var (pv 2)) (o_some (e_var (pv 4))) o_none)) b_nil))))))))))) ss_nil)
  (ss_one (s_ret (e_var (pv 3)))))) rfl rfl
  exact Z.mono hk
/-! _law_moved_row -/
abbrev s__law_moved_row : Stmt := topS 30
theorem sc__law_moved_row : FnScope ["feed", "steps", "found", "at", "k", "to", "step"] ["feed", "steps"] (defScope s__law_moved_row) := ⟨rfl, rfl, rfl, by decide +kernel, rfl, by decide +kernel, by decide +kernel⟩
def m__law_moved_row : M Fl := sSeq (sSet 2 (lcKM (srcV T.asList (eVar 1)) [6] (gNm 6) (cYes) (un opListOf (eVar 6))))
  (sSeq (sSet 3 (eFnL f__law_draw (lHere true (eVar 0) (aCons (un opLen (eVar 2)) (aNil)))))
  (sSeq (sIf (cOf (bin true opGt (un opLen (subs true opIx (eVar 2) (eVar 3))) (eC (.int 0)))) (sSeq (sSet 4 (mutMO "list" lPop (subs true opIx (eVar 2) (eVar 3)) f__law_draw (lHere true (eVar 0) (aCons (un opLen (subs true opIx (eVar 2) (eVar 3))) (aNil)))))
  (sSeq (sSet 5 (eFnL f__law_draw (lHere true (eVar 0) (aCons (un opLen (eVar 2)) (aNil)))))
  (sPut true putAny (un opSorted (bin true opAdd (subs true opIx (eVar 2) (eVar 5)) (eLst (aCons (eVar 4) (aNil))))) (eVar 2) (eVar 5)))) (sNx))
  (sRet (eVar 2))))
def f__law_moved_row : Fn := runFn 2 7 m__law_moved_row
theorem ok__law_moved_row (W : Fx K mg) {k : Nat} (hk : 2 ≤ k) : OkF P w K mg base "_law_moved_row" ["feed", "steps"] k (spD K false f__law_moved_row) := by
  have Z : OkF P w K mg base "_law_moved_row" ["feed", "steps"] (1 + 1) (spD K false (runFn (List.length (α := Str) ["feed", "steps"]) (List.length (α := Str) ["feed", "steps", "found", "at", "k", "to", "step"]) m__law_moved_row)) := okF W.d__law_moved_row sc__law_moved_row fun f cdv A outer s H E hr => by
    have h64 := hr.units
    have h65 := u65 hr
    have h1 := hu_of hr
    exact PSs_as (ss_cons (s_setLcK (i := 2) rfl sc__law_moved_row.nd rfl rfl (i_list (e_var (pv 1))) (blkOk_by (N := ["feed", "steps", "found", "at", "k", "to", "step"]) (own := [("step", 6)]) (sc := defScope s__law_moved_row) (by decide +kernel)) (fun _ _ _ _ _ => (g_name (i := 6) sc__law_moved_row.nd rfl (.inl rfl))) (fun _ _ _ _ _ => ts_nil) (fun _ _ _ _ _ => (e_callTy1 r_listOf (by rfl) W.z_list bt_list (e_var (pv 6)))) (by decide) (by rfl))
  (ss_cons (s_set (i := 3) sc__law_moved_row.nd rfl (.inl rfl) (f_callL (ok__law_draw (P := P) (w := w) (base := base) W (by omega)) hr (by rfl) (l_here (e_var (pv 0)) (a_cons (e_callB1 r_len (by rfl) W.z_len bt_len (e_var (pv 2))) a_nil))))
  (ss_cons (s_if (t_cmp r_gt (e_callB1 r_len (by rfl) W.z_len bt_len (e_subs (r_ix h1) (e_var (pv 2)) (e_var (pv 3)) fun _ _ => rfl)) (e_c pe_int fun F => .int _) (nomark _)) (ss_cons (s_set (i := 4) sc__law_moved_row.nd rfl (.inl rfl) (e_mutO PySem.F.plainAttrs_list PySem.F.slot_list_pop PySem.F.type_list_pop ty_list m_pop (e_subs (r_ix h1) (e_var (pv 2)) (e_var (pv 3)) fun _ _ => rfl) (ok__law_draw (P := P) (w := w) (base := base) W (by omega)) hr (by rfl) (l_here (e_var (pv 0)) (a_cons (e_callB1 r_len (by rfl) W.z_len bt_len (e_subs (r_ix h1) (e_var (pv 2)) (e_var (pv 3)) fun _ _ => rfl)) a_nil))))
  (ss_cons (s_set (i := 5) sc__law_moved_row.nd rfl (.inl rfl) (f_callL (ok__law_draw (P := P) (w := w) (base := base) W (by omega)) hr (by rfl) (l_here (e_var (pv 0)) (a_cons (e_callB1 r_len (by rfl) W.z_len bt_len (e_var (pv 2))) a_nil))))
  (ss_one (s_put (p_any h1) (e_callB1 r_sorted (by rfl) W.z_sorted bt_sorted (e_op r_add (e_subs (r_ix h1) (e_var (pv 2)) (e_var (pv 5)) fun _ _ => rfl) (e_lst (a_cons (e_var (pv 4)) a_nil)))) (e_var (pv 2)) (e_var (pv 5)))))) ss_nil)
  (ss_one (s_ret (e_var (pv 2))))))) rfl rfl
  exact Z.mono hk
/-! _law_right -/
abbrev s__law_right : Stmt := topS 31
theorem sc__law_right : FnScope ["feed", "core", "rows", "levels", "first", "single", "papers", "chain", "k", "paper", "at", "handed", "before", "said", "level", "row"] ["feed", "core"] (defScope s__law_right) := ⟨rfl, rfl, rfl, by decide +kernel, rfl, by decide +kernel, by decide +kernel⟩
def m__law_right : M Fl := sSeq (sSet 2 (subs true opIx (eVar 1) (eC (.int 1))))
  (sSeq (sSet 3 (eFn f__law_levels (aCons (eVar 2) (aNil))))
  (sSeq (sSet 4 (lcM (srcR rng1 (aCons (bin true opAdd (un opMax (bin true opAdd (eVar 3) (eLst (aCons (un opNeg (eC (.int 1))) (aNil))))) (eC (.int 1))) (aNil))) [14] (gNm 14) (cYes) (lcM (srcR rng1 (aCons (un opLen (eVar 2)) (aNil))) [8] (gNm 8) (cOf (bin true opEq (subs true opIx (eVar 3) (eVar 8)) (eVar 14))) (eVar 8))))
  (sSeq (sSet 5 (lcM (srcR rng1 (aCons (un opLen (eVar 2)) (aNil))) [8] (gNm 8) (cYes) (eLst (aCons (eVar 8) (aNil)))))
  (sSeq (sSet 6 (bin false opAdd (eFnL f__law_bent (lHere true (eVar 0) (aCons (un opLen (eVar 2)) (aCons (eVar 4) (aNil))))) (eFnL f__law_bent (lHere true (eVar 0) (aCons (un opLen (eVar 2)) (aCons (eVar 5) (aNil)))))))
  (sSeq (sExpr (mutM "list" true lAppend (eVar 6) (bConsF (lcM (srcR rng1 (aCons (un opLen (eVar 2)) (aNil))) [15] (gNm 15) (cYes) (eVar 15)) (bNil))))
  (sSeq (sIf (cOf (bin true opGt (un opLen (eVar 4)) (eC (.int 1)))) (sSeq (sSet 10 (bin false opAdd (eC (.int 1)) (eFnL f__law_draw (lHere true (eVar 0) (aCons (bin true opSub (un opLen (eVar 4)) (eC (.int 1))) (aNil))))))
  (sSeq (sExpr (mutM "list" true lAppend (eVar 6) (bConsF (bin true opAdd (bin true opAdd (sliceT opSl true (eVar 4) (oNone) (oSome (bin true opSub (eVar 10) (eC (.int 1))))) (eLst (aCons (un opSorted (bin true opAdd (subs true opIx (eVar 4) (bin true opSub (eVar 10) (eC (.int 1)))) (subs true opIx (eVar 4) (eVar 10)))) (aNil)))) (sliceT opSl true (eVar 4) (oSome (bin true opAdd (eVar 10) (eC (.int 1)))) (oNone))) (bNil))))
  (sSet 6 (bin false opAdd (eVar 6) (lcM (srcR rng1 (aCons (eC (.int 3)) (aNil))) [8] (gNm 8) (cYes) (eFnL f__law_moved_row (lHere true (eVar 0) (aCons (eVar 4) (aNil))))))))) (sNx))
  (sSeq (sIf (cOf (bin true opGt (un opLen (eVar 4)) (eC (.int 0)))) (sExpr (mutM "list" true lAppend (eVar 6) (bConsF (bin true opAdd (eLst (aCons (un opRev (subs true opIx (eVar 4) (eC (.int 0)))) (aNil))) (sliceT opSl true (eVar 4) (oSome (eC (.int 1))) (oNone))) (bNil)))) (sNx))
  (sSeq (sSet 7 (eLst (aNil)))
  (sSeq (sFor (srcR rng1 (aCons (un opLen (eVar 2)) (aNil))) (gNm 8) (sIf (cAnd (cOr (cOf (bin true opEq (un opLen (eVar 7)) (eC (.int 0)))) (cTru (eFn f__law_hang (aCons (subs true opIx (eVar 2) (subs true opIx (eVar 7) (un opNeg (eC (.int 1))))) (aCons (subs true opIx (eVar 2) (eVar 8)) (aNil)))))) (cOf (bin true opGt (eFnL f__law_draw (lHere true (eVar 0) (aCons (eC (.int 4)) (aNil)))) (eC (.int 0))))) (sExpr (mutM "list" true lAppend (eVar 7) (bConsF (eVar 8) (bNil)))) (sNx)))
  (sSeq (sSet 6 (bin false opAdd (eVar 6) (eFnL f__law_bent (lHere true (eVar 0) (aCons (un opLen (eVar 2)) (aCons (eVar 7) (aNil)))))))
  (sSeq (sIf (cOr (cOf (bin true opIsNt (eFnL f_shows_steps (lNext (eFn f__law_copy (aCons (eVar 1) (aNil))) (lHere true (eVar 4) (aNil)))) (eC (.bool true)))) (cOf (bin true opIsNt (eFnL f_shows_chain (lNext (eFn f__law_copy (aCons (eVar 1) (aNil))) (lHere true (eVar 7) (aNil)))) (eC (.bool true))))) (sRet (eC (.bool false))) (sNx))
  (sSeq (sFor (srcV T.asList (eVar 6)) (gNm 9) (sSeq (sSet 11 (eFn f__law_copy (aCons (eVar 1) (aNil))))
  (sSeq (sSet 12 (un opRepr (eVar 9)))
  (sSeq (sSet 13 (eLst (aCons (eFnL f_shows_steps (lNext (eVar 11) (lHere true (eVar 9) (aNil)))) (aCons (eFnL f_shows_chain (lNext (eVar 11) (lHere true (eVar 9) (aNil)))) (aNil)))))
  (sSeq (sIf (cNot (cTru (eFnL f__law_same (lHere true (eVar 13) (aCons (eLst (aCons (eFn f__law_are_steps (aCons (eVar 2) (aCons (eVar 9) (aNil)))) (aCons (eFn f__law_is_chain (aCons (eVar 2) (aCons (eVar 9) (aNil)))) (aNil)))) (aNil)))))) (sRet (eC (.bool false))) (sNx))
  (sIf (cOr (cOf (bin true opNe (un opRepr (eVar 9)) (eVar 12))) (cOf (bin true opNe (eVar 11) (eVar 1)))) (sRet (eC (.bool false))) (sNx)))))))
  (sRet (eC (.bool true)))))))))))))))
def f__law_right : Fn := runFn 2 16 m__law_right
theorem ok__law_right (W : Fx K mg) {k : Nat} (hk : 10 ≤ k) : OkFG P w K mg base "_law_right" ["feed", "core"] k (spD K false f__law_right) := by
  have Z : OkFG P w K mg base "_law_right" ["feed", "core"] (9 + 1) (spD K false (runFn (List.length (α := Str) ["feed", "core"]) (List.length (α := Str) ["feed", "core", "rows", "levels", "first", "single", "papers", "chain", "k", "paper", "at", "handed", "before", "said", "level", "row"]) m__law_right)) := okFG W.d__law_right sc__law_right fun f cdv A hgd0 outer s H E hr => by
    have hgd := hgd0
    have h64 := hr.units
    have h65 := u65 hr
    have h1 := hu_of hr
    exact PSs_as (ss_cons (s_set (i := 2) sc__law_right.nd rfl (.inr rfl) (e_subs (r_ix h1) (e_var (pv 1)) (e_c pe_int fun F => .int _) fun _ _ => rfl))
  (ss_cons (s_set (i := 3) sc__law_right.nd rfl (.inr rfl) (f_call (ok__law_levels (P := P) (w := w) (base := base) W (by omega)) hr (by rfl) (a_cons (e_var (pv 2)) a_nil)))
  (ss_cons (s_set (i := 4) sc__law_right.nd rfl (.inr rfl) (e_lc rfl sc__law_right.nd (i_range1 (by rfl) W.z_range (a_cons (e_op r_add (e_callB1 (r_max rfl) (by rfl) W.z_max bt_max (e_op r_add (e_var (pv 3)) (e_lst (a_cons (e_un r_neg (e_c pe_int fun F => .int _)) a_nil)))) (e_c pe_int fun F => .int _)) a_nil)) (blkOk_by (N := ["feed", "core", "rows", "levels", "first", "single", "papers", "chain", "k", "paper", "at", "handed", "before", "said", "level", "row"]) (own := [("level", 14)]) (sc := defScope s__law_right) (by decide +kernel)) (fun _ _ _ _ _ => (g_name (i := 14) sc__law_right.nd rfl (.inr rfl))) (fun _ _ _ _ _ => ts_nil) (fun _ _ _ _ _ => (e_lc rfl sc__law_right.nd (i_range1 (by rfl) W.z_range (a_cons (e_callB1 r_len (by rfl) W.z_len bt_len (e_var (pv 2))) a_nil)) (blkOk_by (N := ["feed", "core", "rows", "levels", "first", "single", "papers", "chain", "k", "paper", "at", "handed", "before", "said", "level", "row"]) (own := [("k", 8)]) (sc := ⟨.function, [(".0", .local), ("level", .cell), ("range", .globalImplicit), ("len", .globalImplicit), ("levels", .cell), ("rows", .cell)], false, false, []⟩) (by decide +kernel)) (fun _ _ _ _ _ => (g_name (i := 8) sc__law_right.nd rfl (.inl rfl))) (fun _ _ _ _ _ => (ts_one (t_cmp (r_eq h64) (e_subs (r_ix h1) (e_var (pv 3)) (e_var (pv 8)) fun _ _ => rfl) (e_var (pv 14)) (nomark _)))) (fun _ _ _ _ _ => (e_var (pv 8))) (by decide))) (by decide)))
  (ss_cons (s_setLc (i := 5) rfl sc__law_right.nd rfl rfl (i_range1 (by rfl) W.z_range (a_cons (e_callB1 r_len (by rfl) W.z_len bt_len (e_var (pv 2))) a_nil)) (blkOk_by (N := ["feed", "core", "rows", "levels", "first", "single", "papers", "chain", "k", "paper", "at", "handed", "before", "said", "level", "row"]) (own := [("k", 8)]) (sc := defScope s__law_right) (by decide +kernel)) (fun _ _ _ _ _ => (g_name (i := 8) sc__law_right.nd rfl (.inl rfl))) (fun _ _ _ _ _ => ts_nil) (fun _ _ _ _ _ => (e_lst (a_cons (e_var (pv 8)) a_nil))) (by decide) (by rfl))
  (ss_cons (s_set (i := 6) sc__law_right.nd rfl (.inl rfl) (e_op r_add (f_callL (ok__law_bent (P := P) (w := w) (base := base) W (by omega)) hr (by rfl) (l_here (e_var (pv 0)) (a_cons (e_callB1 r_len (by rfl) W.z_len bt_len (e_var (pv 2))) (a_cons (e_var (pv 4)) a_nil)))) (f_callL (ok__law_bent (P := P) (w := w) (base := base) W (by omega)) hr (by rfl) (l_here (e_var (pv 0)) (a_cons (e_callB1 r_len (by rfl) W.z_len bt_len (e_var (pv 2))) (a_cons (e_var (pv 5)) a_nil))))))
  (ss_cons (s_expr (e_mut PySem.F.plainAttrs_list PySem.F.slot_list_append PySem.F.type_list_append ty_list m_append (e_var (pv 6)) (b_consF (e_lc rfl sc__law_right.nd (i_range1 (by rfl) W.z_range (a_cons (e_callB1 r_len (by rfl) W.z_len bt_len (e_var (pv 2))) a_nil)) (blkOk_by (N := ["feed", "core", "rows", "levels", "first", "single", "papers", "chain", "k", "paper", "at", "handed", "before", "said", "level", "row"]) (own := [("row", 15)]) (sc := defScope s__law_right) (by decide +kernel)) (fun _ _ _ _ _ => (g_name (i := 15) sc__law_right.nd rfl (.inl rfl))) (fun _ _ _ _ _ => ts_nil) (fun _ _ _ _ _ => (e_var (pv 15))) (by decide)) b_nil)))
  (ss_cons (s_if (t_cmp r_gt (e_callB1 r_len (by rfl) W.z_len bt_len (e_var (pv 4))) (e_c pe_int fun F => .int _) (nomark _)) (ss_cons (s_set (i := 10) sc__law_right.nd rfl (.inl rfl) (e_op r_add (e_c pe_int fun F => .int _) (f_callL (ok__law_draw (P := P) (w := w) (base := base) W (by omega)) hr (by rfl) (l_here (e_var (pv 0)) (a_cons (e_op r_sub (e_callB1 r_len (by rfl) W.z_len bt_len (e_var (pv 4))) (e_c pe_int fun F => .int _)) a_nil)))))
  (ss_cons (s_expr (e_mut PySem.F.plainAttrs_list PySem.F.slot_list_append PySem.F.type_list_append ty_list m_append (e_var (pv 6)) (b_consF (e_op r_add (e_op r_add (e_slice r_sl (e_var (pv 4)) o_none (o_some (e_op r_sub (e_var (pv 10)) (e_c pe_int fun F => .int _)))) (e_lst (a_cons (e_callB1 r_sorted (by rfl) W.z_sorted bt_sorted (e_op r_add (e_subs (r_ix h1) (e_var (pv 4)) (e_op r_sub (e_var (pv 10)) (e_c pe_int fun F => .int _)) fun _ _ => rfl) (e_subs (r_ix h1) (e_var (pv 4)) (e_var (pv 10)) fun _ _ => rfl))) a_nil))) (e_slice r_sl (e_var (pv 4)) (o_some (e_op r_add (e_var (pv 10)) (e_c pe_int fun F => .int _))) o_none)) b_nil)))
  (ss_one (s_set (i := 6) sc__law_right.nd rfl (.inl rfl) (e_op r_add (e_var (pv 6)) (e_lc rfl sc__law_right.nd (i_range1 (by rfl) W.z_range (a_cons (e_c pe_int fun F => .int _) a_nil)) (blkOk_by (N := ["feed", "core", "rows", "levels", "first", "single", "papers", "chain", "k", "paper", "at", "handed", "before", "said", "level", "row"]) (own := [("k", 8)]) (sc := defScope s__law_right) (by decide +kernel)) (fun _ _ _ _ _ => (g_name (i := 8) sc__law_right.nd rfl (.inl rfl))) (fun _ _ _ _ _ => ts_nil) (fun _ _ _ _ _ => (f_callL (ok__law_moved_row (P := P) (w := w) (base := base) W (by omega)) hr (by rfl) (l_here (e_var (pv 0)) (a_cons (e_var (pv 4)) a_nil)))) (by decide))))))) ss_nil)
  (ss_cons (s_if (t_cmp r_gt (e_callB1 r_len (by rfl) W.z_len bt_len (e_var (pv 4))) (e_c pe_int fun F => .int _) (nomark _)) (ss_one (s_expr (e_mut PySem.F.plainAttrs_list PySem.F.slot_list_append PySem.F.type_list_append ty_list m_append (e_var (pv 6)) (b_consF (e_op r_add (e_lst (a_cons (e_rev (e_subs (r_ix h1) (e_var (pv 4)) (e_c pe_int fun F => .int _) fun _ _ => rfl)) a_nil)) (e_slice r_sl (e_var (pv 4)) (o_some (e_c pe_int fun F => .int _)) o_none)) b_nil)))) ss_nil)
  (ss_cons (s_set (i := 7) sc__law_right.nd rfl (.inl rfl) (e_lst a_nil))
  (ss_cons (s_for PassesOwn.never rfl (i_range1 (by rfl) W.z_range (a_cons (e_callB1 r_len (by rfl) W.z_len bt_len (e_var (pv 2))) a_nil)) (g_name (i := 8) sc__law_right.nd rfl (.inl rfl)) (ss_one (s_if (t_w (w_and (t_w (w_or (t_cmp (r_eq h64) (e_callB1 r_len (by rfl) W.z_len bt_len (e_var (pv 7))) (e_c pe_int fun F => .int _) (nomark _)) (w_or1 (t_truth (f_call (ok__law_hang (P := P) (w := w) (base := base) W (by omega)) hr (by rfl) (a_cons (e_subs (r_ix h1) (e_var (pv 2)) (e_subs (r_ix h1) (e_var (pv 7)) (e_un r_neg (e_c pe_int fun F => .int _)) fun _ _ => rfl) fun _ _ => rfl) (a_cons (e_subs (r_ix h1) (e_var (pv 2)) (e_var (pv 8)) fun _ _ => rfl) a_nil))))))) (w_and1 (t_cmp r_gt (f_callL (ok__law_draw (P := P) (w := w) (base := base) W (by omega)) hr (by rfl) (l_here (e_var (pv 0)) (a_cons (e_c pe_int fun F => .int _) a_nil))) (e_c pe_int fun F => .int _) (nomark _))))) (ss_one (s_expr (e_mut PySem.F.plainAttrs_list PySem.F.slot_list_append PySem.F.type_list_append ty_list m_append (e_var (pv 7)) (b_consF (e_var (pv 8)) b_nil)))) ss_nil)))
  (ss_cons (s_set (i := 6) sc__law_right.nd rfl (.inl rfl) (e_op r_add (e_var (pv 6)) (f_callL (ok__law_bent (P := P) (w := w) (base := base) W (by omega)) hr (by rfl) (l_here (e_var (pv 0)) (a_cons (e_callB1 r_len (by rfl) W.z_len bt_len (e_var (pv 2))) (a_cons (e_var (pv 7)) a_nil))))))
  (ss_cons (s_if (t_w (w_or (t_cmp r_isnt (f_callL (ok_shows_steps (P := P) (w := w) (base := base) W (by omega)) hr (by rfl) (l_next (f_call (ok__law_copy (P := P) (w := w) (base := base) W (by omega)) hr (by rfl) (a_cons (e_var (pv 1)) a_nil)) (l_here (e_var (pv 4)) a_nil))) (e_c pe_bl fun F => .bl _) (nomark _)) (w_or1 (t_cmp r_isnt (f_callL (ok_shows_chain (P := P) (w := w) (base := base) W (by omega)) hr (by rfl) (l_next (f_call (ok__law_copy (P := P) (w := w) (base := base) W (by omega)) hr (by rfl) (a_cons (e_var (pv 1)) a_nil)) (l_here (e_var (pv 7)) a_nil))) (e_c pe_bl fun F => .bl _) (nomark _))))) (ss_one (s_ret (e_c pe_bl fun F => .bl _))) ss_nil)
  (ss_cons (s_for PassesOwn.never rfl (i_list (e_var (pv 6))) (g_name (i := 9) sc__law_right.nd rfl (.inl rfl)) (ss_cons (s_set (i := 11) sc__law_right.nd rfl (.inl rfl) (f_call (ok__law_copy (P := P) (w := w) (base := base) W (by omega)) hr (by rfl) (a_cons (e_var (pv 1)) a_nil)))
  (ss_cons (s_set (i := 12) sc__law_right.nd rfl (.inl rfl) (e_callB1 (r_repr hgd h65) (by rfl) W.z_repr bt_repr (e_var (pv 9))))
  (ss_cons (s_set (i := 13) sc__law_right.nd rfl (.inl rfl) (e_lst (a_cons (f_callL (ok_shows_steps (P := P) (w := w) (base := base) W (by omega)) hr (by rfl) (l_next (e_var (pv 11)) (l_here (e_var (pv 9)) a_nil))) (a_cons (f_callL (ok_shows_chain (P := P) (w := w) (base := base) W (by omega)) hr (by rfl) (l_next (e_var (pv 11)) (l_here (e_var (pv 9)) a_nil))) a_nil))))
  (ss_cons (s_if (t_not (t_truth (f_callL (ok__law_same (P := P) (w := w) (base := base) W (by omega)) hr (by rfl) (l_here (e_var (pv 13)) (a_cons (e_lst (a_cons (f_call (ok__law_are_steps (P := P) (w := w) (base := base) W (by omega)) hr (by rfl) (a_cons (e_var (pv 2)) (a_cons (e_var (pv 9)) a_nil))) (a_cons (f_call (ok__law_is_chain (P := P) (w := w) (base := base) W (by omega)) hr (by rfl) (a_cons (e_var (pv 2)) (a_cons (e_var (pv 9)) a_nil))) a_nil))) a_nil))))) (ss_one (s_ret (e_c pe_bl fun F => .bl _))) ss_nil)
  (ss_one (s_if (t_w (w_or (t_cmp (r_ne h64) (e_callB1 (r_repr hgd h65) (by rfl) W.z_repr bt_repr (e_var (pv 9))) (e_var (pv 12)) (nomark _)) (w_or1 (t_cmp (r_ne h64) (e_var (pv 11)) (e_var (pv 1)) (nomark _))))) (ss_one (s_ret (e_c pe_bl fun F => .bl _))) ss_nil)))))))
  (ss_one (s_ret (e_c pe_bl fun F => .bl _)))))))))))))))) rfl rfl
  exact Z.mono hk
/-! law -/
abbrev s_law : Stmt := topS 32
theorem sc_law : FnScope ["script", "feed", "turn", "rows", "core"] ["script"] (defScope s_law) := ⟨rfl, rfl, rfl, by decide +kernel, rfl, by decide +kernel, by decide +kernel⟩
def m_law : M Fl := sSeq (sSet 1 (eFnL f__law_feed (lHere true (eVar 0) (aNil))))
  (sSeq (sFor (srcR rng1 (aCons (eC (.int 2)) (aNil))) (gNm 2) (sIf (cNot (cTru (eFnL f__law_right (lHere false (eVar 1) (aCons (eFnL f__law_core (lHere false (eVar 1) (aCons (eFnL f__law_draw (lHere true (eVar 1) (aCons (eC (.int 3)) (aNil)))) (aCons (eC (.int 4)) (aCons (eC (.int 12)) (aNil)))))) (aNil)))))) (sRet (eC (.bool false))) (sNx)))
  (sSeq (sSet 3 (eLst (aCons (eTup (aCons (eC (.str "turn")) (aCons (eC (.str "h")) (aCons (eLst (aCons (eC (.int 0)) (aNil))) (aNil))))) (aCons (eTup (aCons (eC (.str "turn")) (aCons (eC (.str "h")) (aCons (eLst (aCons (eC (.int 1)) (aNil))) (aNil))))) (aCons (eTup (aCons (eC (.str "turn")) (aCons (eC (.str "cz")) (aCons (eLst (aCons (eC (.int 0)) (aCons (eC (.int 1)) (aNil)))) (aNil))))) (aNil))))))
  (sSeq (sSet 4 (eTup (aCons (eC (.int 2)) (aCons (eVar 3) (aCons (eLst (aCons (eC (.int 0)) (aCons (eC (.int 1)) (aNil)))) (aCons (eLst (aNil)) (aNil)))))))
  (sSeq (sIf (cNot (cTru (eFnL f__law_same (lHere true (eLst (aCons (eFnL f_shows_steps (lNext (eVar 4) (lHere true (eLst (aCons (eLst (aCons (eC (.int 0)) (aCons (eC (.int 1)) (aNil)))) (aCons (eLst (aCons (eC (.int 2)) (aNil))) (aNil)))) (aNil)))) (aCons (eFnL f_shows_steps (lNext (eVar 4) (lHere true (eLst (aCons (eLst (aCons (eC (.int 1)) (aNil))) (aCons (eLst (aNil)) (aCons (eLst (aCons (eC (.int 0)) (aNil))) (aCons (eLst (aCons (eC (.int 2)) (aNil))) (aNil)))))) (aNil)))) (aNil)))) (aCons (eLst (aCons (eC (.bool true)) (aCons (eC (.bool true)) (aNil)))) (aNil)))))) (sRet (eC (.bool false))) (sNx))
  (sSeq (sIf (cNot (cTru (eFnL f__law_same (lHere true (eLst (aCons (eFnL f_shows_steps (lNext (eVar 4) (lHere true (eLst (aCons (eLst (aCons (eC (.int 1)) (aCons (eC (.int 0)) (aNil)))) (aCons (eLst (aCons (eC (.int 2)) (aNil))) (aNil)))) (aNil)))) (aCons (eFnL f_shows_steps (lNext (eVar 4) (lHere true (eLst (aCons (eLst (aCons (eC (.int 0)) (aCons (eC (.int 2)) (aNil)))) (aCons (eLst (aCons (eC (.int 1)) (aNil))) (aNil)))) (aNil)))) (aNil)))) (aCons (eLst (aCons (eC (.bool false)) (aCons (eC (.bool false)) (aNil)))) (aNil)))))) (sRet (eC (.bool false))) (sNx))
  (sRet (eFnL f__law_same (lHere true (eLst (aCons (eFnL f_shows_chain (lNext (eVar 4) (lHere true (eLst (aCons (eC (.int 0)) (aCons (eC (.int 2)) (aNil)))) (aNil)))) (aCons (eFnL f_shows_chain (lNext (eVar 4) (lHere true (eLst (aCons (eC (.int 0)) (aCons (eC (.int 1)) (aNil)))) (aNil)))) (aCons (eFnL f_shows_chain (lNext (eVar 4) (lHere true (eLst (aNil)) (aNil)))) (aNil))))) (aCons (eLst (aCons (eC (.bool true)) (aCons (eC (.bool false)) (aCons (eC (.bool true)) (aNil))))) (aNil))))))))))
def f_law : Fn := runFn 1 5 m_law
theorem bd_law (W : Fx K mg) (f : Addr) (cdv : Value) (A : Around) (hgd0 : A.guards = some []) (outer : List Env) (s : Shared) (H : Hp) (E : XK) (hr : Room 10 (A.deeper (envOfC "law" (defScope s_law) s.heap.objs.size f cdv))) :
    PSs (cxOf CX0 P w K mg base ["script", "feed", "turn", "rows", "core"] "law" (defScope s_law) f cdv A outer s H E).nox (defBody s_law) (tS K false m_law) := by
    have hgd := hgd0
    have h64 := hr.units
    have h65 := u65 hr
    have h1 := hu_of hr
    exact PSs_as (ss_cons (s_set (i := 1) sc_law.nd rfl (.inl rfl) (f_callL (ok__law_feed (P := P) (w := w) (base := base) W (by omega)) hr (by rfl) (l_here (e_var (pv 0)) a_nil)))
  (ss_cons (s_for PassesOwn.never rfl (i_range1 (by rfl) W.z_range (a_cons (e_c pe_int fun F => .int _) a_nil)) (g_name (i := 2) sc_law.nd rfl (.inl rfl)) (ss_one (s_if (t_not (t_truth (f_callLG (ok__law_right (P := P) (w := w) (base := base) W (by omega)) hgd hr (by rfl) (l_here (e_var (pv 1)) (a_cons (f_callL (ok__law_core (P := P) (w := w) (base := base) W (by omega)) hr (by rfl) (l_here (e_var (pv 1)) (a_cons (f_callL (ok__law_draw (P := P) (w := w) (base := base) W (by omega)) hr (by rfl) (l_here (e_var (pv 1)) (a_cons (e_c pe_int fun F => .int _) a_nil))) (a_cons (e_c pe_int fun F => .int _) (a_cons (e_c pe_int fun F => .int _) a_nil))))) a_nil))))) (ss_one (s_ret (e_c pe_bl fun F => .bl _))) ss_nil)))
  (ss_cons (s_set (i := 3) sc_law.nd rfl (.inl rfl) (e_lst (a_cons (e_tup (a_cons (e_c pe_str fun F => .str _) (a_cons (e_c pe_str fun F => .str _) (a_cons (e_lst (a_cons (e_c pe_int fun F => .int _) a_nil)) a_nil)))) (a_cons (e_tup (a_cons (e_c pe_str fun F => .str _) (a_cons (e_c pe_str fun F => .str _) (a_cons (e_lst (a_cons (e_c pe_int fun F => .int _) a_nil)) a_nil)))) (a_cons (e_tup (a_cons (e_c pe_str fun F => .str _) (a_cons (e_c pe_str fun F => .str _) (a_cons (e_lst (a_cons (e_c pe_int fun F => .int _) (a_cons (e_c pe_int fun F => .int _) a_nil))) a_nil)))) a_nil)))))
  (ss_cons (s_set (i := 4) sc_law.nd rfl (.inl rfl) (e_tup (a_cons (e_c pe_int fun F => .int _) (a_cons (e_var (pv 3)) (a_cons (e_lst (a_cons (e_c pe_int fun F => .int _) (a_cons (e_c pe_int fun F => .int _) a_nil))) (a_cons (e_lst a_nil) a_nil))))))
  (ss_cons (s_if (t_not (t_truth (f_callL (ok__law_same (P := P) (w := w) (base := base) W (by omega)) hr (by rfl) (l_here (e_lst (a_cons (f_callL (ok_shows_steps (P := P) (w := w) (base := base) W (by omega)) hr (by rfl) (l_next (e_var (pv 4)) (l_here (e_lst (a_cons (e_lst (a_cons (e_c pe_int fun F => .int _) (a_cons (e_c pe_int fun F => .int _) a_nil))) (a_cons (e_lst (a_cons (e_c pe_int fun F => .int _) a_nil)) a_nil))) a_nil))) (a_cons (f_callL (ok_shows_steps (P := P) (w := w) (base := base) W (by omega)) hr (by rfl) (l_next (e_var (pv 4)) (l_here (e_lst (a_cons (e_lst (a_cons (e_c pe_int fun F => .int _) a_nil)) (a_cons (e_lst a_nil) (a_cons (e_lst (a_cons (e_c pe_int fun F => .int _) a_nil)) (a_cons (e_lst (a_cons (e_c pe_int fun F => .int _) a_nil)) a_nil))))) a_nil))) a_nil))) (a_cons (e_lst (a_cons (e_c pe_bl fun F => .bl _) (a_cons (e_c pe_bl fun F => .bl _) a_nil))) a_nil))))) (ss_one (s_ret (e_c pe_bl fun F => .bl _))) ss_nil)
  (ss_cons (s_if (t_not (t_truth (f_callL (ok__law_same (P := P) (w := w) (base := base) W (by omega)) hr (by rfl) (l_here (e_lst (a_cons (f_callL (ok_shows_steps (P := P) (w := w) (base := base) W (by omega)) hr (by rfl) (l_next (e_var (pv 4)) (l_here (e_lst (a_cons (e_lst (a_cons (e_c pe_int fun F => .int _) (a_cons (e_c pe_int fun F => .int _) a_nil))) (a_cons (e_lst (a_cons (e_c pe_int fun F => .int _) a_nil)) a_nil))) a_nil))) (a_cons (f_callL (ok_shows_steps (P := P) (w := w) (base := base) W (by omega)) hr (by rfl) (l_next (e_var (pv 4)) (l_here (e_lst (a_cons (e_lst (a_cons (e_c pe_int fun F => .int _) (a_cons (e_c pe_int fun F => .int _) a_nil))) (a_cons (e_lst (a_cons (e_c pe_int fun F => .int _) a_nil)) a_nil))) a_nil))) a_nil))) (a_cons (e_lst (a_cons (e_c pe_bl fun F => .bl _) (a_cons (e_c pe_bl fun F => .bl _) a_nil))) a_nil))))) (ss_one (s_ret (e_c pe_bl fun F => .bl _))) ss_nil)
  (ss_one (s_ret (f_callL (ok__law_same (P := P) (w := w) (base := base) W (by omega)) hr (by rfl) (l_here (e_lst (a_cons (f_callL (ok_shows_chain (P := P) (w := w) (base := base) W (by omega)) hr (by rfl) (l_next (e_var (pv 4)) (l_here (e_lst (a_cons (e_c pe_int fun F => .int _) (a_cons (e_c pe_int fun F => .int _) a_nil))) a_nil))) (a_cons (f_callL (ok_shows_chain (P := P) (w := w) (base := base) W (by omega)) hr (by rfl) (l_next (e_var (pv 4)) (l_here (e_lst (a_cons (e_c pe_int fun F => .int _) (a_cons (e_c pe_int fun F => .int _) a_nil))) a_nil))) (a_cons (f_callL (ok_shows_chain (P := P) (w := w) (base := base) W (by omega)) hr (by rfl) (l_next (e_var (pv 4)) (l_here (e_lst a_nil) a_nil))) a_nil)))) (a_cons (e_lst (a_cons (e_c pe_bl fun F => .bl _) (a_cons (e_c pe_bl fun F => .bl _) (a_cons (e_c pe_bl fun F => .bl _) a_nil)))) a_nil))))))))))) rfl rfl
theorem run_law (W : Fx K mg) {f : Addr} {fd : FuncData} (F : Fun K "law" "law" s_law f fd) : FnOkG P w K mg base 11 f fd ["script"] (spD K false f_law) :=
  fn_okG (k := 10) (m := m_law) F sc_law fun cdv A hg outer s H E hr => bd_law W f cdv A hg outer s H E hr
end
end K71

/-! the mathematics: levels from the front, heights from behind -/
namespace K71
def mxl (ns : List Nat) : Nat := ns.foldr max 0
theorem le_mxl {ns : List Nat} {x : Nat} (h : x ∈ ns) : x ≤ mxl ns := by
  induction ns with
  | nil => cases h
  | cons n ns ih =>
    show x ≤ max n (mxl ns)
    rcases List.mem_cons.mp h with rfl | h
    · exact Nat.le_max_left _ _
    · exact Nat.le_trans (ih h) (Nat.le_max_right _ _)
theorem mxl_mem (ns : List Nat) : mxl ns = 0 ∨ mxl ns ∈ ns := by
  induction ns with
  | nil => exact .inl rfl
  | cons n ns ih =>
    show max n (mxl ns) = 0 ∨ max n (mxl ns) ∈ n :: ns
    rcases Nat.le_total (mxl ns) n with h | h
    · rw [Nat.max_eq_left h]; exact .inr List.mem_cons_self
    · rw [Nat.max_eq_right h]
      rcases ih with e | e
      · exact .inl e
      · exact .inr (List.mem_cons_of_mem _ e)
theorem mxl_le {ns : List Nat} {b : Nat} (h : ∀ x ∈ ns, x ≤ b) : mxl ns ≤ b := by
  rcases mxl_mem ns with e | e
  · omega
  · exact h _ e
theorem mxl_congr {α : Type} {xs : List α} {f g : α → Nat} (h : ∀ x ∈ xs, f x = g x) : mxl (xs.map f) = mxl (xs.map g) := by
  rw [List.map_congr_left h]
section
variable (R : Nat → Nat → Bool) (n : Nat)
def levF : Nat → Nat → Nat
  | 0, _ => 0
  | f + 1, j => mxl (((List.range j).filter fun i => R i j).map fun i => levF f i + 1)
def lev (j : Nat) : Nat := levF R (j + 1) j

theorem levF_irr : ∀ j f g, j < f → j < g → levF R f j = levF R g j := by
  intro j
  induction j using Nat.strongRecOn with
  | _ j ih =>
    intro f g hf hg
    obtain ⟨f, rfl⟩ : ∃ k, f = k + 1 := ⟨f - 1, by omega⟩
    obtain ⟨g, rfl⟩ : ∃ k, g = k + 1 := ⟨g - 1, by omega⟩
    refine mxl_congr fun i hi => ?_
    have hi := List.mem_range.mp (List.mem_filter.mp hi).1
    rw [ih i hi f g (by omega) (by omega)]
theorem lev_eq (j : Nat) : lev R j = mxl (((List.range j).filter fun i => R i j).map fun i => lev R i + 1) := by
  refine mxl_congr fun i hi => ?_
  have hi := List.mem_range.mp (List.mem_filter.mp hi).1
  rw [levF_irr R i j (i + 1) hi (by omega)]
  rfl
theorem lev_lt {i j : Nat} (h : i < j) (r : R i j = true) : lev R i + 1 ≤ lev R j := by
  rw [lev_eq R j]
  exact le_mxl (List.mem_map.mpr ⟨i, List.mem_filter.mpr ⟨List.mem_range.mpr h, r⟩, rfl⟩)
theorem lev_from {j : Nat} (h : 0 < lev R j) : ∃ i, i < j ∧ R i j = true ∧ lev R j = lev R i + 1 := by
  have e := lev_eq R j
  rcases mxl_mem (((List.range j).filter fun i => R i j).map fun i => lev R i + 1) with z | z
  · omega
  · obtain ⟨i, hi, q⟩ := List.mem_map.mp z
    obtain ⟨h1, h2⟩ := List.mem_filter.mp hi
    exact ⟨i, List.mem_range.mp h1, h2, by omega⟩
/-! heights -/
def behind (i : Nat) : List Nat := (List.range n).filter fun j => decide (i < j) && R i j
theorem mem_behind {i j : Nat} : j ∈ behind R n i ↔ i < j ∧ j < n ∧ R i j = true := by
  unfold behind
  rw [List.mem_filter, List.mem_range, Bool.and_eq_true, decide_eq_true_eq]
  constructor
  · rintro ⟨a, b, c⟩; exact ⟨b, a, c⟩
  · rintro ⟨a, b, c⟩; exact ⟨b, a, c⟩
def hgtF : Nat → Nat → Nat
  | 0, _ => 0
  | f + 1, i => 1 + mxl ((behind R n i).map (hgtF f))
def hgt (i : Nat) : Nat := hgtF R n (n - i) i
theorem hgtF_irr : ∀ m i f g, n - i ≤ m → n - i ≤ f → n - i ≤ g → i < n → hgtF R n f i = hgtF R n g i := by
  intro m
  induction m with
  | zero => intro i f g h1 h2 h3 h4; omega
  | succ m ih =>
    intro i f g h1 h2 h3 h4
    obtain ⟨f, rfl⟩ : ∃ k, f = k + 1 := ⟨f - 1, by omega⟩
    obtain ⟨g, rfl⟩ : ∃ k, g = k + 1 := ⟨g - 1, by omega⟩
    show 1 + mxl _ = 1 + mxl _
    congr 1
    refine mxl_congr fun j hj => ?_
    obtain ⟨a, b, _⟩ := (mem_behind R n).mp hj
    exact ih j f g (by omega) (by omega) (by omega) b
theorem hgt_eq {i : Nat} (h : i < n) : hgt R n i = 1 + mxl ((behind R n i).map (hgt R n)) := by
  unfold hgt
  obtain ⟨f, hf⟩ : ∃ k, n - i = k + 1 := ⟨n - i - 1, by omega⟩
  rw [hf]
  show 1 + mxl _ = 1 + mxl _
  congr 1
  refine mxl_congr fun j hj => ?_
  obtain ⟨a, b, _⟩ := (mem_behind R n).mp hj
  exact hgtF_irr R n f j f (n - j) (by omega) (by omega) (by omega) b
theorem hgt_pos {i : Nat} (h : i < n) : 0 < hgt R n i := by rw [hgt_eq R n h]; omega
theorem hgt_lt {i j : Nat} (h : i < j) (hj : j < n) (r : R i j = true) : hgt R n j + 1 ≤ hgt R n i := by
  rw [hgt_eq R n (show i < n by omega)]
  have := le_mxl (List.mem_map.mpr ⟨j, (mem_behind R n).mpr ⟨h, hj, r⟩, rfl⟩ : hgt R n j ∈ (behind R n i).map (hgt R n))
  omega
theorem hgt_from {i : Nat} (hi : i < n) (h : 1 < hgt R n i) : ∃ j, i < j ∧ j < n ∧ R i j = true ∧ hgt R n i = hgt R n j + 1 := by
  have e := hgt_eq R n hi
  rcases mxl_mem ((behind R n i).map (hgt R n)) with z | z
  · omega
  · obtain ⟨j, hj, q⟩ := List.mem_map.mp z
    obtain ⟨a, b, c⟩ := (mem_behind R n).mp hj
    exact ⟨j, a, b, c, by omega⟩
def levs : List Nat := (List.range n).map (lev R)
def hgts : List Nat := (List.range n).map (hgt R n)
/-- the number of levels -/
def deep : Nat := mxl ((List.range n).map fun j => lev R j + 1)
theorem lev_deep {j : Nat} (h : j < n) : lev R j + 1 ≤ deep R n := le_mxl (List.mem_map.mpr ⟨j, List.mem_range.mpr h, rfl⟩)
theorem hgt_mxl {j : Nat} (h : j < n) : hgt R n j ≤ mxl (hgts R n) := le_mxl (List.mem_map.mpr ⟨j, List.mem_range.mpr h, rfl⟩)
theorem both_deep : ∀ m i, n - i ≤ m → i < n → lev R i + hgt R n i ≤ deep R n := by
  intro m
  induction m with
  | zero => intro i h1 h2; omega
  | succ m ih =>
    intro i h1 h2
    by_cases h : 1 < hgt R n i
    · obtain ⟨j, a, b, c, d⟩ := hgt_from R n h2 h
      have := ih j (by omega) b
      have := lev_lt R a c
      omega
    · have := lev_deep R n h2
      have := hgt_pos R n h2
      omega
theorem both_high : ∀ j, j < n → lev R j + hgt R n j ≤ mxl (hgts R n) := by
  intro j
  induction j using Nat.strongRecOn with
  | _ j ih =>
    intro h
    by_cases h0 : 0 < lev R j
    · obtain ⟨i, a, b, c⟩ := lev_from R h0
      have := ih i a (by omega)
      have := hgt_lt R n a h b
      omega
    · have := hgt_mxl R n h
      omega
theorem deep_high : mxl (hgts R n) = deep R n := by
  refine Nat.le_antisymm (mxl_le fun x hx => ?_) (mxl_le fun x hx => ?_)
  · obtain ⟨i, hi, rfl⟩ := List.mem_map.mp hx
    have hi := List.mem_range.mp hi
    have := both_deep R n (n - i) i (Nat.le_refl _) hi
    omega
  · obtain ⟨i, hi, rfl⟩ := List.mem_map.mp hx
    have hi := List.mem_range.mp hi
    have := both_high R n i hi
    have := hgt_pos R n hi
    omega
/-! the chain -/
/-- j is the first row behind k of the height below k's -/
structure Next (k j : Nat) : Prop where
  lt : k < j
  in_ : j < n
  r : R k j = true
  h : hgt R n j + 1 = hgt R n k
  first : ∀ i, k < i → i < j → R k i = true → hgt R n i + 1 ≠ hgt R n k
inductive IsC : Nat → List Nat → Prop
  | last {k : Nat} : k < n → hgt R n k = 1 → IsC k [k]
  | step {k j : Nat} {c : List Nat} : k < n → Next R n k j → IsC j c → IsC k (k :: c)
theorem IsC.len {k : Nat} {c : List Nat} (h : IsC R n k c) : c.length = hgt R n k := by
  induction h with
  | last a b => rw [b]; rfl
  | step a b _ ih => rw [List.length_cons, ih, b.h]
theorem IsC.head {k : Nat} {c : List Nat} (h : IsC R n k c) : ∃ r, c = k :: r := by
  cases h <;> exact ⟨_, rfl⟩
theorem IsC.lt {k : Nat} {c : List Nat} (h : IsC R n k c) : k < n := by cases h <;> assumption
/-- what stands in a chain -/
theorem IsC.split {k : Nat} {c : List Nat} (h : IsC R n k c) : ∀ (a b : List Nat) (x : Nat), c = a ++ x :: b → hgt R n x + a.length = hgt R n k ∧ x < n ∧ k ≤ x ∧ (∀ l, a.getLast? = some l → Next R n l x) ∧ (b = [] → hgt R n x = 1) := by
  induction h with
  | @last k h1 h2 =>
    intro a b x e
    cases a with
    | nil => injection e with e1 e2; subst e1; exact ⟨by simp, h1, Nat.le_refl _, fun l z => (nomatch z), fun _ => h2⟩
    | cons y a => injection e with e1 e2; exact absurd e2 (by cases a <;> simp)
  | @step k j c h1 h2 h3 ih =>
    intro a b x e
    cases a with
    | nil =>
      injection e with e1 e2
      subst e1
      refine ⟨by simp, h1, Nat.le_refl _, fun l z => (nomatch z), fun hb => ?_⟩
      subst hb
      subst e2
      cases h3
    | cons y a =>
      injection e with e1 e2
      subst e1
      obtain ⟨g1, g2, g3, g4, g5⟩ := ih a b x e2
      refine ⟨by rw [List.length_cons]; have := h2.h; omega, g2, by have := h2.lt; omega, fun l z => ?_, g5⟩
      cases a with
      | nil =>
        have z : k = l := Option.some.inj z
        subst z
        obtain ⟨r, hr⟩ := IsC.head R n h3
        rw [hr] at e2
        injection e2 with e3 e4
        subst e3
        exact h2
      | cons y2 a2 =>
        rw [List.getLast?_cons_cons] at z
        exact g4 l z
end
end K71

namespace K71
open PySem PySem.Spec PyProof.Rows L2 DL
inductive Row where
  | new (s : Int)
  | read (s b : Int)
  | fix (p : Str) (s : Int) (ks : List Int)
  | turn (k : Str) (ss : List Int)
abbrev inL (ns : List Int) : PyData := .list (ns.map PyData.int)
def Row.enc : Row → PyData
  | .new s => .tuple [.str "new", .int s]
  | .read s b => .tuple [.str "read", .int s, .int b]
  | .fix p s ks => .tuple [.str "fix", .str p, .int s, inL ks]
  | .turn k ss => .tuple [.str "turn", .str k, inL ss]
def Row.slots : Row → List Int
  | .new s => [s]
  | .read s _ => [s]
  | .fix _ s _ => [s]
  | .turn _ ss => ss
def ow (d : PyData) : Sl := .own (.fr d)
theorem slots_ok (r : Row) : ∃ t, f_slots_of [ow r.enc] = some (t, [.non]) ∧ t.asList = some (r.slots.map .int) ∧ (∀ n : Int, memT (.fr (.int n)) t = some (r.slots.contains n)) := by
  cases r with
  | new s => exact ⟨_, rfl, rfl, fun n => memL_ints [s] n⟩
  | read s b => exact ⟨_, rfl, rfl, fun n => memL_ints [s] n⟩
  | fix p s ks => exact ⟨_, rfl, rfl, fun n => memL_ints [s] n⟩
  | turn k ss => exact ⟨_, rfl, rfl, fun n => mem_ints ss n⟩

def share (a b : Row) : Bool := a.slots.any fun n => b.slots.contains n
theorem do_share_ok (a b : Row) (hl : a.slots.length ≤ sizeLine) : f_do_share [ow a.enc, ow b.enc] = some (.fr (.bool (share a b)), [.non, .non]) := by
  obtain ⟨ta, ha, la, _⟩ := slots_ok a
  obtain ⟨tb, hb, _, mb⟩ := slots_ok b
  let ρ : MS := [ow a.enc, ow b.enc, .non]
  have h1 : lcM (srcV T.asList (eFn f_slots_of (aCons (eVar 0) aNil))) [2] (gNm 2) cYes (bin true opIn (eVar 2) (eFn f_slots_of (aCons (eVar 1) aNil))) ρ
      = some (.val (.lst ((((a.slots.map PyData.int).filter fun _ => true).map fun d => .bool (match d with | .int n => b.slots.contains n | _ => false)).map T.fr)), ρ) := by
    refine lcM_pure (hd := none) (ρ1 := ρ) (fun _ => true) (fun d => .bool (match d with | .int n => b.slots.contains n | _ => false)) (srcV_eq (eFn_eq rfl ha) rfl la) (by rw [List.length_map]; exact hl) (fun d hd => ?_) rfl rfl
    obtain ⟨n, _, rfl⟩ := List.mem_map.mp hd
    refine ⟨[ow a.enc, ow b.enc, ow (.int n)], rfl, rfl, fun _ => ?_, rfl⟩
    have h2 : bin true opIn (eVar 2) (eFn f_slots_of (aCons (eVar 1) aNil)) [ow a.enc, ow b.enc, ow (.int n)] = some (.val (.fr (.bool (b.slots.contains n))), [ow a.enc, ow b.enc, ow (.int n)]) :=
      bin_eq rfl (eFn_eq rfl hb) rfl rfl rfl (by show (memT (.fr (.int n)) tb).map _ = _; rw [mb]; rfl)
    show (bin true opIn (eVar 2) (eFn f_slots_of (aCons (eVar 1) aNil)) [ow a.enc, ow b.enc, ow (.int n)]).bind _ = _
    rw [h2]
    rfl
  have h3 : m_do_share ρ = some (.rt (.val (.fr (.bool (share a b)))), ρ) := by
    show (un opAny _ ρ).map _ = _
    rw [un_eq h1 rfl (r := .fr (.bool (share a b))) ?_]
    · rfl
    · have : (((a.slots.map PyData.int).filter fun _ => true).map fun d => PyData.bool (match d with | .int n => b.slots.contains n | _ => false)) = ((a.slots.map fun n => b.slots.contains n).map PyData.bool) := by
        rw [List.filter_eq_self.mpr (fun _ _ => rfl), List.map_map, List.map_map]
        rfl
      rw [this, bools_any, List.any_map]
      rfl
  show (m_do_share ρ).bind _ = _
  rw [h3]
  rfl

def readsFor : Row → Row → Bool
  | .read _ b, .fix _ _ ks => ks.contains b
  | _, _ => false
theorem reads_for_ok (a b : Row) : f_reads_for [ow a.enc, ow b.enc] = some (.fr (.bool (readsFor a b)), [.non, .non]) := by
  cases a <;> cases b <;> first
  | rfl
  | (rename_i s c p t ks
     have h : opIn (.fr (.int c)) (.fr (inL ks)) = some (.fr (.bool (ks.contains c))) := by
       show (memT _ _).map _ = _
       rw [mem_ints]; rfl
     let ρ : MS := [ow (Row.read s c).enc, ow (Row.fix p t ks).enc]
     have h2 : m_reads_for ρ = some (.rt (.val (.fr (.bool (ks.contains c)))), ρ) := by
       show ((opIn (.fr (.int c)) (.fr (inL ks))).map fun r => (R.val r, ρ)).map _ = _
       rw [h]; rfl
     show (m_reads_for ρ).bind _ = _
     rw [h2]; rfl)
def pairK : Row → Row → Bool
  | .read _ _, .read _ _ => true
  | .read _ _, .new _ => true
  | .new _, .read _ _ => true
  | _, _ => false
def hang (a b : Row) : Bool := pairK a b || (share a b || (readsFor a b || readsFor b a))
def kd : Row → Str
  | .new _ => "new"
  | .read _ _ => "read"
  | .fix _ _ _ => "fix"
  | .turn _ _ => "turn"
theorem pairs_ok (a b : Row) : opIn (.fr (.tuple [.str (kd a), .str (kd b)])) (.fr (.tuple [.tuple [.str "read", .str "read"], .tuple [.str "read", .str "new"], .tuple [.str "new", .str "read"]])) = some (.fr (.bool (pairK a b))) := by
  have go : ∀ (x y : Str) (r : Bool) (t : T), memT (.fr (.tuple [.str x, .str y])) t = some r → opIn (.fr (.tuple [.str x, .str y])) t = some (.fr (.bool r)) := fun x y r t h => by
    unfold opIn
    rw [h]; rfl
  cases a <;> cases b <;> exact go _ _ _ _ (by simp only [kd, pairK]; decide +kernel)
theorem first_ok (r : Row) : ∃ ds, r.enc = .tuple (.str (kd r) :: ds) := by
  cases r <;> exact ⟨_, rfl⟩
theorem hang_ok (a b : Row) (hl : a.slots.length ≤ sizeLine) : f_hang_together [ow a.enc, ow b.enc] = some (.fr (.bool (hang a b)), [.non, .non]) := by
  let k : PyData := .tuple [.str (kd a), .str (kd b)]
  let ρ : MS := [ow a.enc, ow b.enc, ow k]
  have key : sRet (vOr (eFn f_do_share (aCons (eVar 0) (aCons (eVar 1) aNil))) (vOr (eFn f_reads_for (aCons (eVar 0) (aCons (eVar 1) aNil))) (eFn f_reads_for (aCons (eVar 1) (aCons (eVar 0) aNil))))) ρ
      = some (.rt (.val (.fr (.bool (share a b || (readsFor a b || readsFor b a))))), ρ) := by
    refine sRet_eq (vOr_eq (eFn_eq (ds := [a.enc, b.enc]) rfl (do_share_ok a b hl)) rfl ?_)
    cases share a b with
    | true => rfl
    | false =>
      refine vOr_eq (eFn_eq (ds := [a.enc, b.enc]) rfl (reads_for_ok a b)) rfl ?_
      cases readsFor a b with
      | true => rfl
      | false => exact eFn_eq (ds := [b.enc, a.enc]) rfl (reads_for_ok b a)
  have s1 : sSet 2 (eTup (aCons (subs true opIx (eVar 0) (eC (.int 0))) (aCons (subs true opIx (eVar 1) (eC (.int 0))) aNil))) [ow a.enc, ow b.enc, .non] = some (.nx, ρ) := by
    cases a <;> cases b <;> rfl
  unfold hang
  cases hp : pairK a b with
  | true =>
    refine runFn_ret (ρ := ρ) ⟨rfl, rfl⟩ (sSeq_eq s1 ?_)
    have h2 := cOf_eq (bin_eq (q := true) (ga := eVar 2) (gb := eTup (aCons (eTup (aCons (eC (.str "read")) (aCons (eC (.str "read")) aNil))) (aCons (eTup (aCons (eC (.str "read")) (aCons (eC (.str "new")) aNil))) (aCons (eTup (aCons (eC (.str "new")) (aCons (eC (.str "read")) aNil))) aNil)))) (ρ := ρ) rfl rfl rfl rfl rfl (pairs_ok a b)) rfl
    have h3 : sIf _ (sRet (eC (.bool true))) sNx ρ = some (.rt (.val (.fr (.bool true))), ρ) := sIf_eq h2 (by rw [hp]; rfl)
    show (sIf _ _ _ ρ).bind _ = _
    rw [h3]
    rfl
  | false =>
    refine runFn_ret (ρ := ρ) ⟨rfl, rfl⟩ (sSeq_eq s1 ?_)
    have h2 := cOf_eq (bin_eq (q := true) (ga := eVar 2) (gb := eTup (aCons (eTup (aCons (eC (.str "read")) (aCons (eC (.str "read")) aNil))) (aCons (eTup (aCons (eC (.str "read")) (aCons (eC (.str "new")) aNil))) (aCons (eTup (aCons (eC (.str "new")) (aCons (eC (.str "read")) aNil))) aNil)))) (ρ := ρ) rfl rfl rfl rfl rfl (pairs_ok a b)) rfl
    exact sSeq_eq (sIf_eq h2 (by rw [hp]; rfl)) key
end K71

namespace K71
open PySem PySem.Spec PyProof.Rows L2 DL
theorem slots2_ok (r : Row) : ∃ t, f__law_slots [ow r.enc] = some (t, [.non]) ∧ t.asList = some (r.slots.map .int) ∧ (∀ n : Int, memT (.fr (.int n)) t = some (r.slots.contains n)) := by
  cases r with
  | new s => exact ⟨_, rfl, rfl, fun n => memL_ints [s] n⟩
  | read s b => exact ⟨_, rfl, rfl, fun n => memL_ints [s] n⟩
  | fix p s ks => exact ⟨_, rfl, rfl, fun n => memL_ints [s] n⟩
  | turn k ss => exact ⟨_, rfl, rfl, fun n => mem_ints ss n⟩
theorem filter_any (ns : List Int) (p : Int → Bool) : decide (0 < ((ns.filter p).length : Int)) = ns.any p := by
  induction ns with
  | nil => rfl
  | cons n ns ih =>
    rw [List.any_cons]
    cases h : p n with
    | true =>
      rw [List.filter_cons_of_pos h]
      simp
    | false =>
      rw [List.filter_cons_of_neg (by simp [h]), ih]
      rfl
theorem share2_ok (a b : Row) (hl : a.slots.length ≤ sizeLine) : f__law_share [ow a.enc, ow b.enc] = some (.fr (.bool (share a b)), [.non, .non]) := by
  obtain ⟨ta, ha, la, _⟩ := slots2_ok a
  obtain ⟨tb, hb, _, mb⟩ := slots2_ok b
  let ρ : MS := [ow a.enc, ow b.enc, .non]
  let pp : PyData → Bool := fun d => match d with | .int n => b.slots.contains n | _ => false
  have h1 : lcM (srcV T.asList (eFn f__law_slots (aCons (eVar 0) aNil))) [2] (gNm 2) (cOf (bin true opIn (eVar 2) (eFn f__law_slots (aCons (eVar 1) aNil)))) (eVar 2) ρ
      = some (.val (.lst ((((a.slots.map PyData.int).filter pp).map id).map T.fr)), ρ) := by
    refine lcM_pure (hd := none) (ρ1 := ρ) pp id (srcV_eq (eFn_eq rfl ha) rfl la) (by rw [List.length_map]; exact hl) (fun d hd => ?_) rfl rfl
    obtain ⟨n, _, rfl⟩ := List.mem_map.mp hd
    refine ⟨[ow a.enc, ow b.enc, ow (.int n)], rfl, ?_, fun _ => rfl, rfl⟩
    exact cOf_eq (bin_eq rfl (eFn_eq rfl hb) rfl rfl rfl (by show (memT (.fr (.int n)) tb).map _ = some (T.fr (.bool (b.slots.contains n))); rw [mb]; rfl)) rfl
  have e2 : ((a.slots.map PyData.int).filter pp).map id = (a.slots.filter fun n => b.slots.contains n).map PyData.int := by
    rw [List.map_id, List.filter_map]
    rfl
  rw [e2] at h1
  refine runFn_ret (ρ := ρ) ⟨rfl, rfl⟩ (sRet_eq (bin_eq (un_eq h1 rfl rfl) rfl rfl rfl rfl ?_))
  show some (T.fr (.bool (decide (0 < (((((a.slots.filter fun n => b.slots.contains n).map PyData.int).map T.fr).length : Nat) : Int))))) = _
  rw [List.length_map, List.length_map, filter_any]
  rfl
def isRF : Row → Row → Bool
  | .read _ _, .fix _ _ _ => true
  | _, _ => false
def kL (a b : Row) : T := .lst [.fr (.str (kd a)), .fr (.str (kd b))]
theorem pairsL_ok (a b : Row) : opIn (kL a b) (.lst [.fr (.list [.str "read", .str "read"]), .fr (.list [.str "read", .str "new"]), .fr (.list [.str "new", .str "read"])]) = some (.fr (.bool (pairK a b))) := by
  have go : ∀ (x y : Str) (r : Bool) (t : T), memT (.lst [.fr (.str x), .fr (.str y)]) t = some r → opIn (.lst [.fr (.str x), .fr (.str y)]) t = some (.fr (.bool r)) := fun x y r t h => by
    unfold opIn
    rw [h]; rfl
  unfold kL
  cases a <;> cases b <;> exact go _ _ _ _ (by simp only [kd, pairK]; decide +kernel)
theorem eqL_go (x y : Str) (r : Bool) (u v : Str) (h : eqD (.list [.str x, .str y]) (.list [.str u, .str v]) = some r) : opEq (.lst [.fr (.str x), .fr (.str y)]) (.lst [.fr (.str u), .fr (.str v)]) = some (.fr (.bool r)) := by
  show (eqD (.list [.str x, .str y]) (.list [.str u, .str v])).map _ = _
  rw [h]; rfl
theorem eqRF_ok (a b : Row) : opEq (kL a b) (.lst [.fr (.str "read"), .fr (.str "fix")]) = some (.fr (.bool (isRF a b))) := by
  unfold kL
  cases a <;> cases b <;> exact eqL_go _ _ _ _ _ (by simp only [kd, isRF]; decide +kernel)
theorem eqFR_ok (a b : Row) : opEq (kL a b) (.lst [.fr (.str "fix"), .fr (.str "read")]) = some (.fr (.bool (isRF b a))) := by
  unfold kL
  cases a <;> cases b <;> exact eqL_go _ _ _ _ _ (by simp only [kd, isRF]; decide +kernel)
theorem rf_of {a b : Row} (h : isRF a b = true) : ∃ s c p t ks, a = .read s c ∧ b = .fix p t ks := by
  cases a <;> cases b <;> first | exact ⟨_, _, _, _, _, rfl, rfl⟩ | cases h
theorem not_rf {a b : Row} (h : isRF a b = false) : readsFor a b = false := by
  cases a <;> cases b <;> first | rfl | cases h
theorem in_ok (ks : List Int) (c : Int) : opIn (.fr (.int c)) (.fr (inL ks)) = some (.fr (.bool (ks.contains c))) := by
  show (memT _ _).map _ = _
  rw [mem_ints]; rfl
theorem hang2_ok (a b : Row) (hl : a.slots.length ≤ sizeLine) : f__law_hang [ow a.enc, ow b.enc] = some (.fr (.bool (hang a b)), [.non, .non]) := by
  let ρ0 : MS := [ow a.enc, ow b.enc, .non]
  let ρ : MS := [ow a.enc, ow b.enc, .own (kL a b)]
  have c1 : cTru (eFn f__law_share (aCons (eVar 0) (aCons (eVar 1) aNil))) ρ0 = some (share a b, ρ0) := cTru_eq (eFn_eq (ds := [a.enc, b.enc]) rfl (share2_ok a b hl)) rfl rfl
  unfold hang
  cases hs : share a b with
  | true =>
    have : f__law_hang [ow a.enc, ow b.enc] = some (.fr (.bool true), pinsOf 2 ρ0) := by
      refine runFn_ret (ρ := ρ0) ⟨rfl, rfl⟩ ?_
      have h3 : sIf _ (sRet (eC (.bool true))) sNx ρ0 = some (.rt (.val (.fr (.bool true))), ρ0) := sIf_eq c1 (by rw [hs]; rfl)
      show (sIf _ _ _ ρ0).bind _ = _
      rw [h3]; rfl
    rw [this, Bool.true_or, Bool.or_true]
    rfl
  | false =>
    rw [Bool.false_or]
    have s1 : sSet 2 (eLst (aCons (subs true opIx (eVar 0) (eC (.int 0))) (aCons (subs true opIx (eVar 1) (eC (.int 0))) aNil))) ρ0 = some (.nx, ρ) := by
      cases a <;> cases b <;> rfl
    have c2 := cOf_eq (bin_eq (q := true) (ga := eVar 2) (gb := eLst (aCons (eLst (aCons (eC (.str "read")) (aCons (eC (.str "read")) aNil))) (aCons (eLst (aCons (eC (.str "read")) (aCons (eC (.str "new")) aNil))) (aCons (eLst (aCons (eC (.str "new")) (aCons (eC (.str "read")) aNil))) aNil)))) (ρ := ρ) rfl rfl rfl rfl rfl (pairsL_ok a b)) rfl
    have c3 := cOf_eq (bin_eq (q := true) (ga := eVar 2) (gb := eLst (aCons (eC (.str "read")) (aCons (eC (.str "fix")) aNil))) (ρ := ρ) rfl rfl rfl rfl rfl (eqRF_ok a b)) rfl
    refine runFn_ret (ρ := ρ) ⟨rfl, rfl⟩ (sSeq_eq (ρ1 := ρ0) (sIf_eq c1 (by rw [hs]; rfl)) (sSeq_eq s1 ?_))
    cases hp : pairK a b with
    | true =>
      have h3 : sIf _ (sRet (eC (.bool true))) sNx ρ = some (.rt (.val (.fr (.bool true))), ρ) := sIf_eq c2 (by rw [hp]; rfl)
      show (sIf _ _ _ ρ).bind _ = _
      rw [h3]; rfl
    | false =>
      refine sSeq_eq (ρ1 := ρ) (sIf_eq c2 (by rw [hp]; rfl)) ?_
      rw [Bool.false_or]
      cases hr : isRF a b with
      | true =>
        obtain ⟨s, c, p, t, ks, rfl, rfl⟩ := rf_of hr
        have h3 : sIf _ (sRet (bin true opIn (subs true opIx (eVar 0) (eC (.int 2))) (subs true opIx (eVar 1) (eC (.int 3))))) sNx ρ = some (.rt (.val (.fr (.bool (ks.contains c)))), ρ) :=
          sIf_eq c3 (by rw [hr]; exact sRet_eq (bin_eq rfl rfl rfl rfl rfl (in_ok ks c)))
        show (sIf _ _ _ ρ).bind _ = _
        rw [h3]
        show _ = some (Fl.rt (.val (.fr (.bool (ks.contains c || false)))), ρ)
        rw [Bool.or_false]; rfl
      | false =>
        refine sSeq_eq (ρ1 := ρ) (sIf_eq c3 (by rw [hr]; rfl)) ?_
        rw [not_rf hr, Bool.false_or]
        refine sRet_eq (vAnd_eq (bin_eq rfl rfl rfl rfl rfl (eqFR_ok a b)) rfl ?_)
        cases hq : isRF b a with
        | true =>
          obtain ⟨s, c, p, t, ks, rfl, rfl⟩ := rf_of hq
          rw [if_pos rfl]
          exact bin_eq rfl rfl rfl rfl rfl (in_ok ks c)
        | false =>
          rw [if_neg Bool.false_ne_true, not_rf hq]
end K71

namespace K71
open PySem PySem.Spec PyProof.Rows L2 DL
def RR (rs : List Row) (i j : Nat) : Bool := match rs[i]?, rs[j]? with
  | some a, some b => hang a b
  | _, _ => false
def rowsD (rs : List Row) : PyData := .list (rs.map Row.enc)
def coreD (ins : Int) (rs : List Row) (os sh : PyData) : PyData := .tuple [.int ins, rowsD rs, os, sh]
def Good (rs : List Row) : Prop := rs.length ≤ 60 ∧ ∀ r ∈ rs, r.slots.length ≤ 60
theorem small60 {n : Nat} (h : n ≤ 60) : n ≤ sizeLine := by rw [sizeLine_eq]; omega
theorem small60' {n : Nat} (h : n ≤ 60) : n < sizeLine := by rw [sizeLine_eq]; omega
variable {rs : List Row} {ins : Int} {os sh : PyData}
theorem RR_at {i j : Nat} (hi : i < rs.length) (hj : j < rs.length) : RR rs i j = hang rs[i] rs[j] := by
  unfold RR
  rw [List.getElem?_eq_getElem hi, List.getElem?_eq_getElem hj]
theorem rows_at {k : Nat} (h : k < rs.length) : opIx (.fr (rowsD rs)) (.fr (.int (k : Int))) = some (.fr rs[k].enc) := by
  unfold rowsD
  rw [opIx_list (by rw [List.length_map]; exact h), List.getElem_map]
theorem hang_at (G : Good rs) {i j : Nat} (hi : i < rs.length) (hj : j < rs.length) : f_hang_together [ow rs[i].enc, ow rs[j].enc] = some (.fr (.bool (RR rs i j)), [.non, .non]) := by
  rw [RR_at hi hj]
  exact hang_ok _ _ (small60 (G.2 _ (List.getElem_mem hi)))
theorem hang2_at (G : Good rs) {i j : Nat} (hi : i < rs.length) (hj : j < rs.length) : f__law_hang [ow rs[i].enc, ow rs[j].enc] = some (.fr (.bool (RR rs i j)), [.non, .non]) := by
  rw [RR_at hi hj]
  exact hang2_ok _ _ (small60 (G.2 _ (List.getElem_mem hi)))
theorem levs_succ (R : Nat → Nat → Bool) (i : Nat) : levs R (i + 1) = levs R i ++ [lev R i] := by
  unfold levs
  rw [List.range_succ, List.map_append]; rfl
abbrev owl (xs : List Nat) : Sl := .own (.lst ((natD xs).map T.fr))
theorem levs_len (R : Nat → Nat → Bool) (i : Nat) : (levs R i).length = i := by unfold levs; rw [List.length_map, List.length_range]
theorem levs_get (R : Nat → Nat → Bool) {i k : Nat} (h : k < (levs R i).length) : (levs R i)[k] = lev R k := by
  exact (List.getElem_of_eq (show levs R i = (List.range i).map (lev R) from rfl) h).trans ((List.getElem_map _).trans (by rw [List.getElem_range]))
end K71

namespace K71
open PySem PySem.Spec PyProof.Rows L2 DL
variable {rs : List Row} {ins : Int} {os sh : PyData}
theorem mxl_succ {xs : List Nat} (h : xs ≠ []) : mxl (xs.map (· + 1)) = mxl xs + 1 := by
  refine Nat.le_antisymm (mxl_le fun x hx => ?_) ?_
  · obtain ⟨y, hy, rfl⟩ := List.mem_map.mp hx
    have := le_mxl hy
    omega
  · rcases mxl_mem xs with e | e
    · cases xs with
      | nil => exact absurd rfl h
      | cons x xs =>
        have : x + 1 ≤ mxl ((x :: xs).map (· + 1)) := le_mxl (by simp)
        omega
    · exact le_mxl (List.mem_map.mpr ⟨_, e, rfl⟩)
/-- the steps: for each level its rows -/
def stepN (R : Nat → Nat → Bool) (n : Nat) : List (List Nat) := (List.range (deep R n)).map fun l => (List.range n).filter fun i => lev R i == l
def stepD (R : Nat → Nat → Bool) (n : Nat) : List PyData := (stepN R n).map fun xs => .list (natD xs)
theorem deep_le (R : Nat → Nat → Bool) (n : Nat) : deep R n ≤ n := by
  have h : ∀ j, lev R j ≤ j := by
    intro j
    induction j using Nat.strongRecOn with
    | _ j ih =>
      by_cases h0 : 0 < lev R j
      · obtain ⟨i, a, _, c⟩ := lev_from R h0
        have := ih i a
        omega
      · omega
  refine mxl_le fun x hx => ?_
  obtain ⟨j, hj, rfl⟩ := List.mem_map.mp hx
  have := h j
  have := List.mem_range.mp hj
  omega
theorem deep_levs (R : Nat → Nat → Bool) (n : Nat) : opAdd (.fr (mxD (.int (-1)) ((levs R n).map fun (k : Nat) => (k : Int)))) (.fr (.int 1)) = some (.fr (.int (deep R n : Nat))) := by
  rw [mxD_nat]
  unfold deep
  cases n with
  | zero => rfl
  | succ n =>
    have hne : levs R (n + 1) ≠ [] := by rw [levs_succ]; simp
    have e : ((List.range (n + 1)).map fun j => lev R j + 1) = (levs R (n + 1)).map (· + 1) := by
      unfold levs
      rw [List.map_map]; rfl
    rw [e, mxl_succ hne]
    cases hx : levs R (n + 1) with
    | nil => exact absurd hx hne
    | cons x xs =>
      show some (T.fr (.int ((((x :: xs).foldr max 0 : Nat) : Int) + 1))) = some (T.fr (.int ((mxl (x :: xs) + 1 : Nat) : Int)))
      rw [show ((mxl (x :: xs) + 1 : Nat) : Int) = ((mxl (x :: xs) : Nat) : Int) + 1 by omega]
      rfl
theorem enum_nat (xs : List Nat) : ((natD xs).zipIdx.map fun z => PyData.tuple [.int (z.2 : Nat), z.1]) = xs.zipIdx.map fun z => .tuple [.int (z.2 : Nat), .int (z.1 : Nat)] := by
  unfold natD
  rw [List.zipIdx_map, List.map_map]
  rfl
theorem enum_levs (f : Nat → Nat) (n : Nat) : ((natD ((List.range n).map f)).zipIdx.map fun z => PyData.tuple [.int (z.2 : Nat), z.1]) = (List.range n).map fun i => .tuple [.int (i : Nat), .int (f i : Nat)] := by
  rw [enum_nat]
  refine List.ext_getElem (by simp) fun i h1 h2 => ?_
  simp
theorem eq_int (i j : Int) : opEq (.fr (.int i)) (.fr (.int j)) = some (.fr (.bool (decide (i = j)))) := by
  show (eqD (.int i) (.int j)).map (fun b => T.fr (.bool b)) = _
  have : eqD (.int i) (.int j) = some (PyData.eqv (.int i) (.int j)) := rfl
  rw [this, eqv_int]; rfl
def pT (p : Nat → Nat → Bool) : PyData → Bool
  | .tuple [.int a, .int b] => p a.toNat b.toNat
  | _ => false
def gT (g : Nat → Nat → PyData) : PyData → PyData
  | .tuple [.int a, .int b] => g a.toNat b.toNat
  | d => d
end K71

namespace K71
open PySem PySem.Spec PyProof.Rows L2 DL
variable {rs : List Row} {ins : Int} {os sh : PyData}
theorem maxOf_nat (xs : List Nat) : ∀ a : Nat, maxOf (a : Int) (xs.map fun (k : Nat) => (k : Int)) = ((max a (xs.foldr max 0) : Nat) : Int) := by
  induction xs with
  | nil => intro a; simp [maxOf]
  | cons x xs ih =>
    intro a
    show maxOf (max (a : Int) (x : Int)) (xs.map fun (k : Nat) => (k : Int)) = _
    have : max (a : Int) (x : Int) = ((max a x : Nat) : Int) := by omega
    rw [this, ih]
    show _ = ((max a (max x (xs.foldr max 0)) : Nat) : Int)
    congr 1
    omega
theorem opAdd_lst {ds es : List PyData} (h : ds.length + es.length ≤ sizeLine) : opAdd (.lst (ds.map T.fr)) (.lst (es.map T.fr)) = some (.lst ((ds ++ es).map T.fr)) := by
  have e0 : opAdd (.lst (ds.map T.fr)) (.lst (es.map T.fr)) = match T.asLst (.lst (ds.map T.fr)), T.asLst (.lst (es.map T.fr)) with
    | some ds, some es => if cat2 ds es then some (.lst ((ds ++ es).map T.fr)) else none
    | _, _ => match T.asTup (.lst (ds.map T.fr)), T.asTup (.lst (es.map T.fr)) with
      | some ds, some es => if !ds.isEmpty && !es.isEmpty && cat2 ds es then some (.fr (.tuple (ds ++ es))) else none
      | _, _ => none := by
    unfold opAdd
    rfl
  rw [e0, view_lst, view_lst]
  show (if cat2 ds es = true then _ else _) = _
  rw [if_pos (show cat2 ds es = true from decide_eq_true h)]
theorem opMax_nat (a : Nat) (xs : List Nat) : opMax (.lst ((natD (a :: xs)).map T.fr)) = some (.fr (.int ((max a (xs.foldr max 0) : Nat) : Int))) := by
  unfold opMax
  rw [view_list, Option.bind_some, natD_int, DL.ints_map, Option.bind_some]
  show some (T.fr (.int (maxOf (a : Int) (xs.map fun (k : Nat) => (k : Int))))) = _
  rw [maxOf_nat]
theorem levels2_ok (G : Good rs) : f__law_levels [ow (rowsD rs)] = some (.lst ((natD (levs (RR rs) rs.length)).map T.fr), [.non]) := by
  let R := RR rs
  let S : Nat → MS → Prop := fun i ρ => ∃ s2, Fre s2 ∧ ρ = [ow (rowsD rs), owl (levs R i), s2, .non]
  let ρ0 : MS := [ow (rowsD rs), owl [], .non, .non]
  have hlen : (rs.map Row.enc).length = rs.length := List.length_map _
  have hsrc : srcR rng1 (aCons (un opLen (eVar 0)) (aNil)) ρ0 = some ((natD (List.range rs.length), none), ρ0) := by
    refine srcR_eq (ds := [.int (((rs.map Row.enc).length : Nat) : Int)]) rfl ?_
    rw [hlen]
    exact rng1_nat (by have := G.1; omega)
  obtain ⟨ρ', ρ3, ⟨s2, f2, e⟩, hu, hf⟩ := sFor_inv (m := gNm 2)
    (n := sExpr (mutM "list" true lAppend (eVar 1) (bConsF (un opMax (bin true opAdd (eLst (aCons (eC (.int 0)) (aNil))) (lcM (srcR rng1 (aCons (eVar 2) (aNil))) [3] (gNm 3) (cTru (eFn f__law_hang (aCons (subs true opIx (eVar 0) (eVar 3)) (aCons (subs true opIx (eVar 0) (eVar 2)) (aNil))))) (bin true opAdd (subs true opIx (eVar 1) (eVar 3)) (eC (.int 1)))))) (bNil))))
    hsrc S ⟨.non, .inl rfl, rfl⟩ (fun i ρ hi hS => by
      obtain ⟨s2, f2, rfl⟩ := hS
      have hi' : i < rs.length := by rw [natD_len, List.length_range] at hi; exact hi
      let ρ1 : MS := [ow (rowsD rs), owl (levs R i), ow (.int (i : Nat)), .non]
      have el : (natD (List.range rs.length))[i]'hi = .int (i : Nat) := by rw [natD_get hi, List.getElem_range]
      refine ⟨ρ1, ρ1.set 1 (owl (levs R (i + 1))), ?_, .inl ?_, ?_⟩
      · rw [el]
        rcases f2 with rfl | ⟨d2, rfl⟩ <;> rfl
      · have hlc : lcM (srcR rng1 (aCons (eVar 2) (aNil))) [3] (gNm 3) (cTru (eFn f__law_hang (aCons (subs true opIx (eVar 0) (eVar 3)) (aCons (subs true opIx (eVar 0) (eVar 2)) (aNil))))) (bin true opAdd (subs true opIx (eVar 1) (eVar 3)) (eC (.int 1))) ρ1
            = some (.val (.lst (((((List.range i).filter fun k => R k i).map fun k => PyData.int ((lev R k + 1 : Nat) : Int)).map T.fr))), ρ1) := by
          refine lcM_nat (hd := none) (ρ1 := ρ1) (List.range i) (fun k => R k i) (fun k => .int ((lev R k + 1 : Nat) : Int)) (srcR_eq rfl (rng1_nat (by have := G.1; omega))) (by rw [List.length_range]; have := G.1; exact small60 (by omega)) (fun k hk => ?_) rfl rfl
          have hk := List.mem_range.mp hk
          let ρ2 : MS := [ow (rowsD rs), owl (levs R i), ow (.int (i : Nat)), ow (.int (k : Nat))]
          refine ⟨ρ2, rfl, ?_, fun _ => ?_, rfl⟩
          · have a1 : aCons (subs true opIx (eVar 0) (eVar 3)) (aCons (subs true opIx (eVar 0) (eVar 2)) aNil) ρ2 = some ([rs[k].enc, rs[i].enc], ρ2) :=
              aCons_eq (subs_val rfl rfl rfl (rows_at (show k < rs.length by omega))) rfl (aCons_eq (subs_val rfl rfl rfl (rows_at hi')) rfl rfl)
            exact cTru_eq (eFn_eq a1 (hang2_at G (show k < rs.length by omega) hi')) rfl rfl
          · have hk2 : k < (natD (levs R i)).length := by rw [natD_len, levs_len]; exact hk
            have b1 := subs_own (q := true) (f := opIx) (ga := eVar 1) (gb := eVar 3) (ρ := ρ2) (i := 1) rfl rfl rfl rfl hk2
            rw [natD_get hk2, levs_get] at b1
            exact fz_eq (bin_eq b1 rfl rfl rfl rfl rfl) rfl
        have e2 : (((List.range i).filter fun k => R k i).map fun k => PyData.int ((lev R k + 1 : Nat) : Int)) = natD (((List.range i).filter fun k => R k i).map fun k => lev R k + 1) := by
          unfold natD
          rw [List.map_map]; rfl
        rw [e2] at hlc
        have hlen2 : (natD [0]).length + (natD (((List.range i).filter fun k => R k i).map fun k => lev R k + 1)).length ≤ sizeLine := by
          rw [natD_len, natD_len, List.length_map]
          have h1 := List.length_filter_le (fun k => R k i) (List.range i)
          rw [List.length_range] at h1
          have := G.1
          exact small60 (by simp; omega)
        have hm := un_eq (f := opMax) (bin_eq (q := true) (ga := eLst (aCons (eC (.int 0)) aNil)) (t := .lst ((natD [0]).map T.fr)) rfl hlc rfl rfl rfl (opAdd_lst hlen2)) rfl (opMax_nat 0 _)
        have ha := append_eq (q := true) (g := eVar 1) (ρ := ρ1) (t0 := .lst ((natD (levs R i)).map T.fr)) (i := 1) (s := owl (levs R i)) rfl rfl rfl (bConsF_one hm) rfl rfl (by rw [List.length_map, natD_len, levs_len]; have := G.1; exact small60' (by omega))
        have e3 : (natD (levs R i)).map T.fr ++ [T.fr (.int ((max 0 ((((List.range i).filter fun k => R k i).map fun k => lev R k + 1).foldr max 0) : Nat) : Int))] = (natD (levs R (i + 1))).map T.fr := by
          rw [levs_succ, lev_eq R i, Nat.zero_max]
          unfold natD
          rw [List.map_append, List.map_append]
          rfl
        rw [e3] at ha
        exact sExpr_eq ha
      · exact ⟨_, .inr ⟨_, rfl⟩, rfl⟩) (fun ρ' _ => ⟨ρ', rfl⟩)
  subst e
  have hl : (natD (List.range rs.length)).length = rs.length := by rw [natD_len, List.length_range]
  rw [hl] at hu
  have hu := Option.some.inj hu
  subst hu
  exact runFn_bor (ρ := [ow (rowsD rs), owl (levs R rs.length), s2, .non]) (i := 1) ⟨rfl, rfl⟩ (sSeq_eq (ρ1 := ρ0) rfl (sSeq_eq hf rfl)) rfl
end K71

namespace DL
open PySem PySem.Spec PyProof.Rows L2
theorem put_own {qb : Bool} {g ga gb : M R} {ρ ρ1 ρ2 ρ3 : MS} {d : PyData} {y : R} {i k : Nat} {s : Sl} {ts : List T} (h1 : fz g ρ = some (d, ρ1)) (h2 : ga ρ1 = some (.bor i [], ρ2)) (h3 : gb ρ2 = some (y, ρ3)) (l : look ρ3 y = some (.fr (.int (k : Int)))) (hs : ρ3[i]? = some s) (ht : s.tree? = some (.lst ts)) (hk : k < ts.length) :
    sPut qb putAny g ga gb ρ = some (.nx, ρ3.set i (s.with (.lst (ts.set k (.fr d))))) := by
  have e0 : sPut qb putAny g ga gb ρ = (fz g ρ).bind fun z => (ga z.2).bind fun x => (gb x.2).bind fun y => match x.1 with
    | .bor i p => if (R.bor i p).waits qb = true then (look y.2 y.1).bind fun u => y.2[i]?.bind fun s => s.tree?.bind fun t0 => (t0.get p).bind fun t => (putAny t u z.1).map fun t' => (Fl.nx, y.2.set i (s.with (t0.put p t'))) else none
    | .val _ => none := rfl
  rw [e0, h1, Option.bind_some]
  show (ga ρ1).bind _ = _
  rw [h2, Option.bind_some]
  show (gb ρ2).bind _ = _
  rw [h3, Option.bind_some]
  show (if (R.bor i []).waits qb = true then (look ρ3 y).bind _ else none) = _
  rw [if_pos waits0, l, Option.bind_some, hs, Option.bind_some, ht, Option.bind_some]
  show (some (T.lst ts)).bind _ = _
  rw [Option.bind_some]
  show ((((some (k : Int)).bind fun i => (ixN ts.length i).map fun j => T.lst (ts.set j (.fr d))))).map _ = _
  rw [Option.bind_some, ixN_nat hk]
  rfl
end DL
namespace K71
open PySem PySem.Spec PyProof.Rows L2 DL
variable {rs : List Row} {ins : Int} {os sh : PyData}
/-- the heights' list behind i turns -/
def HL (R : Nat → Nat → Bool) (n i : Nat) : List Nat := (List.range n).map fun j => if n ≤ j + i then hgt R n j else 1
theorem HL_len (R : Nat → Nat → Bool) (n i : Nat) : (HL R n i).length = n := by unfold HL; rw [List.length_map, List.length_range]
theorem HL_get (R : Nat → Nat → Bool) (n i : Nat) {k : Nat} (h : k < (HL R n i).length) : (HL R n i)[k] = if n ≤ k + i then hgt R n k else 1 :=
  (List.getElem_of_eq (show HL R n i = (List.range n).map fun j => if n ≤ j + i then hgt R n j else 1 from rfl) h).trans ((List.getElem_map _).trans (by rw [List.getElem_range]))
theorem HL_zero (R : Nat → Nat → Bool) (n : Nat) : HL R n 0 = List.replicate n 1 := by
  refine List.ext_getElem (by rw [HL_len, List.length_replicate]) fun k h1 h2 => ?_
  rw [HL_get, List.getElem_replicate, if_neg (by rw [HL_len] at h1; omega)]
theorem HL_end (R : Nat → Nat → Bool) (n : Nat) : HL R n n = hgts R n := by
  unfold HL hgts
  refine List.map_congr_left fun k _ => ?_
  rw [if_pos (by omega)]
theorem HL_set (R : Nat → Nat → Bool) {n i : Nat} (h : i < n) : (HL R n i).set (n - 1 - i) (hgt R n (n - 1 - i)) = HL R n (i + 1) := by
  refine List.ext_getElem (by rw [List.length_set, HL_len, HL_len]) fun k h1 h2 => ?_
  rw [List.getElem_set]
  by_cases e : n - 1 - i = k
  · subst e; rw [if_pos rfl, HL_get, if_pos (by omega)]
  · rw [if_neg e, HL_get, HL_get]
    by_cases e2 : n ≤ k + i
    · rw [if_pos e2, if_pos (by omega)]
    · rw [if_neg e2, if_neg (by omega)]
theorem behind_range (R : Nat → Nat → Bool) {n i : Nat} (h : i < n) : ((List.range i).map fun t => n - 1 - i + 1 + t).filter (fun k => R (n - 1 - i) k) = behind R n (n - 1 - i) := by
  unfold behind
  have e : List.range n = List.range (n - 1 - i + 1) ++ (List.range i).map fun t => n - 1 - i + 1 + t := by
    rw [← List.range_add]
    congr 1
    omega
  rw [e, List.filter_append]
  have e1 : (List.range (n - 1 - i + 1)).filter (fun j => decide (n - 1 - i < j) && R (n - 1 - i) j) = [] := by
    rw [List.filter_eq_nil_iff]
    intro a ha
    have := List.mem_range.mp ha
    rw [decide_eq_false (by omega)]
    simp
  rw [e1, List.nil_append]
  refine List.filter_congr fun k hk => ?_
  obtain ⟨t, _, rfl⟩ := List.mem_map.mp hk
  rw [decide_eq_true (by omega), Bool.true_and]
theorem ones_ok (n : Nat) (h : n ≤ 60) : opMul (.lst ([PyData.int 1].map T.fr)) (.fr (.int (n : Int))) = some (.lst ((natD (List.replicate n 1)).map T.fr)) := by
  have hc : (decide (-(2 ^ 63) ≤ (n : Int)) && decide ((n : Int) < 2 ^ 63) && decide ([PyData.int 1].length * (n : Int).toNat ≤ sizeLine)) = true := by
    simp only [Bool.and_eq_true, decide_eq_true_eq]
    refine ⟨⟨by omega, by omega⟩, ?_⟩
    rw [sizeLine_eq]
    show 1 * (n : Int).toNat ≤ _
    omega
  unfold opMul
  show (if _ then _ else _) = _
  rw [if_pos hc]
  refine congrArg (fun z => some (T.lst (z.map T.fr))) (?_ : (List.replicate (n : Int).toNat [PyData.int 1]).flatten = natD (List.replicate n 1))
  rw [Int.toNat_natCast]
  clear hc h
  induction n with
  | zero => rfl
  | succ n ih =>
    rw [List.replicate_succ, List.flatten_cons, ih, List.replicate_succ]
    rfl
def Fr4 (s : Sl) : Prop := s = .non ∨ ∃ t, s = .own t
theorem down_ok {n : Nat} (hn : n ≤ 60) : rng3 [.int ((n : Int) - 1), .int (-1), .int (-1)] = some (natD ((List.range n).map fun i => n - 1 - i)) := by
  have hc : (-1 : Int) = -1 ∧ bnd ((n : Int) - 1) = true ∧ bnd (-1) = true := ⟨rfl, bnd_small (by omega) (by omega), bnd_small (by omega) (by omega)⟩
  unfold rng3
  show (if _ then _ else _) = _
  rw [if_pos hc]
  refine congrArg some (?_ : rngDown ((n : Int) - 1) (((n : Int) - 1) - (-1)).toNat = natD ((List.range n).map fun i => n - 1 - i))
  unfold rngDown natD
  rw [show (((n : Int) - 1) - (-1)).toNat = n by omega, List.map_map]
  refine List.map_congr_left fun k hk => ?_
  have := List.mem_range.mp hk
  show PyData.int ((n : Int) - 1 - (k : Int)) = PyData.int ((n - 1 - k : Nat) : Int)
  exact congrArg PyData.int (by omega)
theorem rng2_nat {a n i : Nat} (ha : a + i = n) (hn : n ≤ 1000) : rng2 [.int (a : Int), .int (n : Int)] = some (natD ((List.range i).map fun t => a + t)) := by
  have hc : (bnd (a : Int) && bnd (n : Int)) = true := by
    rw [bnd_small (by omega) (by omega), bnd_small (by omega) (by omega)]
    rfl
  unfold rng2
  show (if _ then _ else _) = _
  rw [if_pos hc]
  refine congrArg some (?_ : rngD (a : Int) ((n : Int) - (a : Int)).toNat = natD ((List.range i).map fun t => a + t))
  unfold rngD natD
  rw [show ((n : Int) - (a : Int)).toNat = i by omega, List.map_map]
  refine List.map_congr_left fun k hk => ?_
  show PyData.int ((a : Int) + (k : Int)) = PyData.int ((a + k : Nat) : Int)
  exact congrArg PyData.int (by omega)
end K71

namespace K71
open PySem PySem.Spec PyProof.Rows L2 DL
variable {rs : List Row} {ins : Int} {os sh : PyData}
/-- the longest chain that is told -/
def Best (R : Nat → Nat → Bool) (n : Nat) (F : List Nat) : Prop := (n = 0 ∧ F = []) ∨ ∃ i0, IsC R n i0 F ∧ hgt R n i0 = deep R n ∧ ∀ j, j < i0 → hgt R n j ≠ deep R n
theorem Best.mem_lt {R : Nat → Nat → Bool} {n : Nat} {F : List Nat} (h : Best R n F) {x : Nat} (m : x ∈ F) : x < n := by
  rcases h with ⟨_, rfl⟩ | ⟨i0, h, _, _⟩
  · cases m
  · obtain ⟨a, b, rfl⟩ := List.append_of_mem m
    exact (IsC.split R n h a b x rfl).2.1
theorem IsC.rise {R : Nat → Nat → Bool} {n k : Nat} {c : List Nat} (h : IsC R n k c) : c.Pairwise (· < ·) := by
  induction h with
  | last _ _ => exact List.pairwise_singleton _ _
  | @step k j c h1 h2 h3 ih =>
    refine List.pairwise_cons.mpr ⟨fun x hx => ?_, ih⟩
    obtain ⟨a, b, rfl⟩ := List.append_of_mem hx
    have := (IsC.split R n h3 a b x rfl).2.2.1
    have := h2.lt
    omega
theorem Best.rise {R : Nat → Nat → Bool} {n : Nat} {F : List Nat} (h : Best R n F) : F.Pairwise (· < ·) := by
  rcases h with ⟨_, rfl⟩ | ⟨i0, h, _, _⟩
  · exact List.Pairwise.nil
  · exact h.rise
theorem Best.len {R : Nat → Nat → Bool} {n : Nat} {F : List Nat} (h : Best R n F) : F.length = deep R n := by
  rcases h with ⟨rfl, rfl⟩ | ⟨i0, h, e, _⟩
  · rfl
  · rw [IsC.len R n h, e]
/-- the next of the chain is the first that the walk meets -/
theorem Best.turn {R : Nat → Nat → Bool} {n : Nat} {c r : List Nat} {i : Nat} (h : Best R n (c ++ r)) (hi : i < n) (hc : ∀ x ∈ c, x < i) (hr : ∀ x ∈ r, i ≤ x) :
    (hgt R n i + c.length = deep R n ∧ (∀ l, c.getLast? = some l → R l i = true)) ↔ ∃ r', r = i :: r' := by
  rcases h with ⟨rfl, e⟩ | ⟨i0, h, e, fst⟩
  · omega
  constructor
  · rintro ⟨h1, h2⟩
    cases r with
    | nil =>
      rw [List.append_nil] at h
      have := IsC.len R n h
      have := hgt_pos R n hi
      omega
    | cons x r =>
      obtain ⟨g1, g2, g3, g4, g5⟩ := IsC.split R n h c r x rfl
      have hx : i ≤ x := hr x List.mem_cons_self
      by_cases hxi : i = x
      · exact ⟨r, by rw [hxi]⟩
      · exfalso
        cases hl : c.getLast? with
        | none =>
          have hc0 : c = [] := List.getLast?_eq_none_iff.mp hl
          subst hc0
          obtain ⟨r2, hr2⟩ := IsC.head R n h
          injection hr2 with h3 h4
          exact fst i (by omega) (by simpa using h1)
        | some l =>
          have N := g4 l hl
          have hlm : l < i := hc l (List.mem_of_getLast? hl)
          exact N.first i hlm (by omega) (h2 l hl) (by have := N.h; omega)
  · rintro ⟨r', rfl⟩
    obtain ⟨g1, g2, g3, g4, g5⟩ := IsC.split R n h c r' i rfl
    exact ⟨by omega, fun l hl => (g4 l hl).r⟩
theorem lay_nat (xs : List Nat) : SeqAt.shaped (.list (natD xs)) = true := by
  rw [natD_int]
  exact shaped_ints _
theorem eq_nil (c : List Nat) : opEq (.lst ((natD c).map T.fr)) (.lst []) = some (.fr (.bool c.isEmpty)) := by
  unfold opEq
  rw [erase_lst]
  show ((some (PyData.list (natD c))).bind fun d => (some (PyData.list [])).bind fun e => (eqD d e).map fun b => T.fr (.bool b)) = _
  rw [Option.bind_some, Option.bind_some]
  unfold eqD
  rw [if_neg (show ¬ scalD (.list (natD c)) (.list []) = true from Bool.false_ne_true), lay_nat]
  cases c <;> rfl
end K71

namespace K71
open PySem PySem.Spec PyProof.Rows L2 DL
variable {rs : List Row} {ins : Int} {os sh : PyData}
theorem opAdd_any {ds es : List PyData} {u : T} (hu : u = .fr (.list es) ∨ u = .lst (es.map T.fr)) (h : ds.length + es.length ≤ sizeLine) : opAdd (.lst (ds.map T.fr)) u = some (.lst ((ds ++ es).map T.fr)) := by
  rcases hu with rfl | rfl
  · have e0 : opAdd (.lst (ds.map T.fr)) (.fr (.list es)) = match T.asLst (.lst (ds.map T.fr)), T.asLst (.fr (.list es)) with
      | some ds, some es => if cat2 ds es then some (.lst ((ds ++ es).map T.fr)) else none
      | _, _ => match T.asTup (.lst (ds.map T.fr)), T.asTup (.fr (.list es)) with
        | some ds, some es => if !ds.isEmpty && !es.isEmpty && cat2 ds es then some (.fr (.tuple (ds ++ es))) else none
        | _, _ => none := by
      unfold opAdd
      rfl
    rw [e0, view_lst]
    show (if cat2 ds es = true then _ else _) = _
    rw [if_pos (show cat2 ds es = true from decide_eq_true h)]
  · exact opAdd_lst h
theorem ge_int (i j : Int) : opGe (.fr (.int i)) (.fr (.int j)) = some (.fr (.bool (decide (j ≤ i)))) := rfl
end K71

namespace DL
open PySem PySem.Spec PyProof.Rows L2
/-- a slot whose list is read: a frozen one of its own, or a lent one -/
def PS (s : Sl) (ds : List PyData) : Prop := s = .own (.fr (.list ds)) ∨ s = .pin (.lst (ds.map T.fr))
variable {s : Sl} {ds : List PyData} {ρ : MS} {i : Nat}
theorem PS.var (h : PS s ds) (e : ρ[i]? = some s) : ∃ x t, eVar i ρ = some (x, ρ) ∧ look ρ x = some t ∧ x.waits false = true ∧ t.asList = some ds ∧ (∀ ts, t = .lst ts → ts = ds.map T.fr) ∧ (t = .fr (.list ds) ∧ x = .val (.fr (.list ds)) ∨ t = .lst (ds.map T.fr) ∧ x = .bor i []) := by
  rcases h with rfl | rfl
  · refine ⟨.val (.fr (.list ds)), .fr (.list ds), ?_, rfl, rfl, rfl, fun ts z => (nomatch z), .inl ⟨rfl, rfl⟩⟩
    show (ρ[i]?.bind Sl.tree?).map _ = _
    rw [e]; rfl
  · refine ⟨.bor i [], .lst (ds.map T.fr), ?_, ?_, rfl, view_list ds, fun ts z => by cases z; rfl, .inr ⟨rfl, rfl⟩⟩
    · show (ρ[i]?.bind Sl.tree?).map _ = _
      rw [e]; rfl
    · show (ρ[i]?.bind Sl.tree?).bind _ = _
      rw [e]; rfl
theorem PS.len (h : PS s ds) (e : ρ[i]? = some s) : un opLen (eVar i) ρ = some (.val (.fr (.int (ds.length : Nat))), ρ) := by
  obtain ⟨x, t, h1, h2, _, _, _, h4⟩ := h.var e
  refine un_eq h1 h2 ?_
  rcases h4 with ⟨rfl, _⟩ | ⟨rfl, _⟩
  · rfl
  · show some (T.fr (.int (((ds.map T.fr).length : Nat) : Int))) = _
    rw [List.length_map]
theorem PS.isi (h : PS s ds) (e : ρ[i]? = some s) : un (opIsi "list") (eVar i) ρ = some (.val (.fr (.bool true)), ρ) := by
  obtain ⟨x, t, h1, h2, _, _, _, h4⟩ := h.var e
  refine un_eq h1 h2 ?_
  rcases h4 with ⟨rfl, _⟩ | ⟨rfl, _⟩ <;> rfl
theorem PS.at {q : Bool} {gb : M R} {y : R} {z : Int} {k : Nat} (h : PS s ds) (e : ρ[i]? = some s) (hb : gb ρ = some (y, ρ)) (hy : look ρ y = some (.fr (.int z))) (hz : ixN ds.length z = some k) (hk : k < ds.length) : subs q opIx (eVar i) gb ρ = some (.val (.fr ds[k]), ρ) := by
  obtain ⟨x, t, h1, h2, _, _, _, h4⟩ := h.var e
  rcases h4 with ⟨rfl, rfl⟩ | ⟨rfl, rfl⟩
  · refine subs_val h1 hb hy ?_
    show ((some z).bind fun i => (atI ds i).map T.fr) = _
    rw [Option.bind_some]
    unfold atI
    rw [hz, Option.bind_some, List.getElem?_eq_getElem hk]; rfl
  · exact subs_own' h1 hb h2 hy hz hk
theorem PS.out (h : PS s ds) : argOk s = true := by rcases h with rfl | rfl <;> rfl
theorem rng2_one (n : Nat) (hn : n ≤ 1000) : rng2 [.int 1, .int (n : Int)] = some (natD ((List.range (n - 1)).map fun t => 1 + t)) := by
  have hc : (bnd 1 && bnd (n : Int)) = true := by
    rw [bnd_small (by omega) (by omega), bnd_small (by omega) (by omega)]
    rfl
  unfold rng2
  show (if _ then _ else _) = _
  rw [if_pos hc]
  refine congrArg some (?_ : rngD 1 ((n : Int) - 1).toNat = natD ((List.range (n - 1)).map fun t => 1 + t))
  unfold rngD natD
  rw [show ((n : Int) - 1).toNat = n - 1 by omega, List.map_map]
  refine List.map_congr_left fun k hk => ?_
  show PyData.int (1 + (k : Int)) = PyData.int ((1 + k : Nat) : Int)
  exact congrArg PyData.int (by omega)
/-- all of a made list that is true throughout -/
theorem all_true {g : M R} {ρ ρ' : MS} {α : Type} {xs : List α} {p : α → Bool} {f : α → PyData} (h : g ρ = some (.val (.lst (((xs.filter p).map f).map T.fr)), ρ')) (hf : ∀ x ∈ xs, p x = true → f x = .bool true) : un opAll g ρ = some (.val (.fr (.bool true)), ρ') := by
  refine un_eq h rfl ?_
  have e : (xs.filter p).map f = ((xs.filter p).map fun _ => true).map PyData.bool := by
    rw [List.map_map]
    refine List.map_congr_left fun x hx => ?_
    obtain ⟨h1, h2⟩ := List.mem_filter.mp hx
    exact hf x h1 h2
  rw [e, bools_all]
  congr 3
  rw [List.all_map]
  exact List.all_eq_true.mpr fun x _ => rfl
theorem lt_int (i j : Int) : opLt (.fr (.int i)) (.fr (.int j)) = some (.fr (.bool (decide (i < j)))) := rfl
theorem le_int (i j : Int) : opLe (.fr (.int i)) (.fr (.int j)) = some (.fr (.bool (decide (i ≤ j)))) := rfl
end DL
namespace K71
open PySem PySem.Spec PyProof.Rows L2 DL
variable {rs : List Row} {ins : Int} {os sh : PyData}
theorem wholes_ok {s : Sl} {xs : List Nat} (h : PS s (natD xs)) (hl : xs.length ≤ 60) : f_are_wholes [s] = some (.fr (.bool true), [pinOnly s]) := by
  have c1 : cNot (cTru (un (opIsi "list") (eVar 0))) [s, .non] = some (false, [s, .non]) := by
    have e0 : ∀ c : DL.M Bool, cNot c [s, .non] = (c [s, .non]).map fun x => (!x.1, x.2) := fun _ => rfl
    rw [e0, cTru_eq (h.isi (ρ := [s, .non]) rfl) rfl rfl]; rfl
  have step : ∀ s' : Sl, ∀ d ∈ natD xs, ∃ ρ2, gNm 1 d (wipeM [1] [s', .non]) = some ρ2 ∧ cYes ρ2 = some (true, ρ2) ∧ (true = true → fz (eFn f_is_whole (aCons (eVar 1) aNil)) ρ2 = some (.bool true, ρ2)) ∧ wipeM [1] ρ2 = wipeM [1] [s', .non] := fun s' d hd => by
    obtain ⟨k, _, rfl⟩ := List.mem_map.mp hd
    exact ⟨[s', ow (.int (k : Nat))], rfl, rfl, fun _ => rfl, rfl⟩
  have hc : ∃ hd, lcM (srcV T.asList (eVar 0)) [1] (gNm 1) cYes (eFn f_is_whole (aCons (eVar 1) aNil)) [s, .non] = some (.val (.lst ((((natD xs).filter fun _ => true).map fun _ => .bool true).map T.fr)), [s, .non]) ∧ hd = true := by
    obtain ⟨x, t, h1, h2, _, h3, _, h4⟩ := h.var (ρ := [s, .non]) (i := 0) rfl
    have hsrc := srcV_eq h1 h2 h3
    rcases h4 with ⟨_, rfl⟩ | ⟨_, rfl⟩
    · exact ⟨true, lcM_pure (fun _ => true) (fun _ => .bool true) hsrc (by rw [natD_len]; exact small60 hl) (step s) rfl rfl, rfl⟩
    · exact ⟨true, lcM_pure (fun _ => true) (fun _ => .bool true) hsrc (by rw [natD_len]; exact small60 hl) (step .hid) rfl rfl, rfl⟩
  obtain ⟨_, hc, _⟩ := hc
  exact runFn_ret (ρ := [s, .non]) ⟨rfl, by show (argOk s && true) = true; rw [h.out]; rfl⟩ (sSeq_eq (sIf_eq c1 rfl) (sRet_eq (all_true hc fun _ _ _ => rfl)))
theorem rising_ok {s : Sl} {xs : List Nat} (h : PS s (natD xs)) (hl : xs.length ≤ 60) (hr : xs.Pairwise (· < ·)) : f_is_rising [s] = some (.fr (.bool true), [pinOnly s]) := by
  have hsrc : srcR rng2 (aCons (eC (.int 1)) (aCons (un opLen (eVar 0)) aNil)) [s, .non] = some ((natD ((List.range (xs.length - 1)).map fun t => 1 + t), none), [s, .non]) := by
    have hln := h.len (ρ := [s, .non]) (i := 0) rfl
    rw [natD_len] at hln
    exact srcR_eq (ds := [.int 1, .int (xs.length : Int)]) (aCons_eq rfl rfl (aCons_eq hln rfl rfl)) (rng2_one _ (by omega))
  have hc := lcM_nat (vs := [1]) (m := gNm 1) (c := cYes) (e := bin true opLt (subs true opIx (eVar 0) (bin true opSub (eVar 1) (eC (.int 1)))) (subs true opIx (eVar 0) (eVar 1))) (ρ3 := [s, .non]) ((List.range (xs.length - 1)).map fun t => 1 + t) (fun _ => true) (fun _ => .bool true) hsrc (by rw [List.length_map, List.length_range]; exact small60 (by omega)) (fun k hk => by
    obtain ⟨t, ht, rfl⟩ := List.mem_map.mp hk
    have ht := List.mem_range.mp ht
    let ρ2 : MS := [s, ow (.int ((1 + t : Nat) : Int))]
    refine ⟨ρ2, rfl, rfl, fun _ => ?_, rfl⟩
    have h1 : t < (natD xs).length := by rw [natD_len]; omega
    have h2 : 1 + t < (natD xs).length := by rw [natD_len]; omega
    have b0 : bin true opSub (eVar 1) (eC (.int 1)) ρ2 = some (.val (.fr (.int (((1 + t : Nat) : Int) - 1))), ρ2) := rfl
    have b1 := h.at (q := true) (ρ := ρ2) (i := 0) (z := ((1 + t : Nat) : Int) - 1) rfl b0 rfl (by rw [show ((1 + t : Nat) : Int) - 1 = ((t : Nat) : Int) by omega]; exact ixN_nat h1) h1
    have b2 := h.at (q := true) (ρ := ρ2) (i := 0) (gb := eVar 1) (z := ((1 + t : Nat) : Int)) rfl rfl rfl (ixN_nat h2) h2
    rw [natD_get h1] at b1
    rw [natD_get h2] at b2
    have hlt : xs[t]'(by omega) < xs[1 + t]'(by omega) := List.pairwise_iff_getElem.mp hr t (1 + t) (by omega) (by omega) (by omega)
    refine fz_eq (bin_eq b1 b2 rfl rfl rfl (lt_int _ _)) ?_
    show some (PyData.bool (decide _), ρ2) = _
    rw [decide_eq_true (by omega)]) rfl rfl
  exact runFn_ret (ρ := [s, .non]) ⟨rfl, by show (argOk s && true) = true; rw [h.out]; rfl⟩ (sRet_eq (all_true hc fun _ _ _ => rfl))
theorem eFnL_var {G : Fn} {q : Bool} {i : Nat} {ρ : MS} {s : Sl} {ds : List PyData} {d : PyData} (h : PS s ds) (e : ρ[i]? = some s) (hg : ∀ s', PS s' ds → G [s'] = some (.fr d, [pinOnly s'])) : eFnL G (lHere q (eVar i) aNil) ρ = some (.val (.fr d), ρ) := by
  rcases h with rfl | rfl
  · have h1 : eVar i ρ = some (.val (.fr (.list ds)), ρ) := by
      show (ρ[i]?.bind Sl.tree?).map _ = _
      rw [e]; rfl
    have h2 : lHere q (eVar i) aNil ρ = some (([], .val (.fr (.list ds)), []), ρ) := by
      have e0 : lHere q (eVar i) aNil ρ = (eVar i ρ).bind fun x => (aNil x.2).bind fun y => if x.1.waits q = true then some (([], x.1, y.1), y.2) else none := rfl
      rw [e0, h1]; rfl
    have e0 : ∀ gl, eFnL G gl ρ = (gl ρ).bind fun x => match x.1.2.1 with
      | .val t => (G (x.1.1.map ofr ++ .own t :: x.1.2.2.map ofr)).map fun z => (.val z.1, x.2)
      | .bor i p => x.2[i]?.bind fun s => s.tree?.bind fun t0 => (t0.get p).bind fun t => (G (x.1.1.map ofr ++ .pin t :: x.1.2.2.map ofr)).bind fun z => match z.2[x.1.1.length]? with
        | some (.pin t') => some (.val z.1, x.2.set i (s.with (t0.put p t')))
        | _ => none := fun _ => rfl
    rw [e0, h2, Option.bind_some]
    show (G [.own (.fr (.list ds))]).map _ = _
    rw [hg _ (.inl rfl)]; rfl
  · have h1 : eVar i ρ = some (.bor i [], ρ) := by
      show (ρ[i]?.bind Sl.tree?).map _ = _
      rw [e]; rfl
    have h2 : lHere q (eVar i) aNil ρ = some (([], .bor i [], []), ρ) := by
      have e0 : lHere q (eVar i) aNil ρ = (eVar i ρ).bind fun x => (aNil x.2).bind fun y => if x.1.waits q = true then some (([], x.1, y.1), y.2) else none := rfl
      rw [e0, h1]
      show (if (R.bor i []).waits q = true then _ else _) = _
      rw [if_pos waits0]
    have e0 : ∀ gl, eFnL G gl ρ = (gl ρ).bind fun x => match x.1.2.1 with
      | .val t => (G (x.1.1.map ofr ++ .own t :: x.1.2.2.map ofr)).map fun z => (.val z.1, x.2)
      | .bor i p => x.2[i]?.bind fun s => s.tree?.bind fun t0 => (t0.get p).bind fun t => (G (x.1.1.map ofr ++ .pin t :: x.1.2.2.map ofr)).bind fun z => match z.2[x.1.1.length]? with
        | some (.pin t') => some (.val z.1, x.2.set i (s.with (t0.put p t')))
        | _ => none := fun _ => rfl
    rw [e0, h2, Option.bind_some]
    show (ρ[i]?.bind _) = _
    rw [e]
    show (G [.pin (.lst (ds.map T.fr))]).bind _ = _
    rw [hg _ (.inr rfl)]
    show some (R.val (T.fr d), ρ.set i (.pin (.lst (ds.map T.fr)))) = _
    congr 2
    exact List.ext_getElem? fun j => by
      by_cases hj : i = j
      · subst hj
        rw [List.getElem?_set_self (List.getElem?_eq_some_iff.mp e).1, e]
      · rw [List.getElem?_set_ne hj]
end K71

namespace DL
open PySem PySem.Spec PyProof.Rows L2
theorem cNot_eq {c : M Bool} {ρ ρ1 : MS} {b : Bool} (h : c ρ = some (b, ρ1)) : cNot c ρ = some (!b, ρ1) := by
  have e0 : cNot c ρ = (c ρ).map fun x => (!x.1, x.2) := rfl
  rw [e0, h]; rfl
theorem cOr_eq {c d : M Bool} {ρ ρ1 : MS} {b : Bool} {z : Option (Bool × MS)} (h : c ρ = some (b, ρ1)) (hz : (if b = true then some (true, ρ1) else d ρ1) = z) : cOr c d ρ = z := by
  have e0 : cOr c d ρ = (c ρ).bind fun x => if x.1 then some (true, x.2) else d x.2 := rfl
  rw [e0, h]; exact hz
theorem cAnd_eq {c d : M Bool} {ρ ρ1 : MS} {b : Bool} {z : Option (Bool × MS)} (h : c ρ = some (b, ρ1)) (hz : (if b = true then d ρ1 else some (false, ρ1)) = z) : cAnd c d ρ = z := by
  have e0 : cAnd c d ρ = (c ρ).bind fun x => if x.1 then d x.2 else some (false, x.2) := rfl
  rw [e0, h]; exact hz
theorem chain_eq {qb qc : Bool} {f f' : T → T → Option T} {ga gb gc : M R} {ρ : MS} {x y z : T} {r : T} (h1 : ga ρ = some (.val x, ρ)) (h2 : gb ρ = some (.val y, ρ)) (h3 : gc ρ = some (.val z, ρ)) (hf : f x y = some (.fr (.bool true))) (hf' : f' y z = some r) :
    chainM qb qc f f' ga gb gc ρ = some (.val r, ρ) := by
  have e0 : chainM qb qc f f' ga gb gc ρ = (ga ρ).bind fun x => (gb x.2).bind fun y =>
    if x.1.waits qb = true then (look y.2 x.1).bind fun t => (look y.2 y.1).bind fun u => (f t u).bind fun r => r.asBool.bind fun k =>
      if k then (gc y.2).bind fun z => if y.1.waits qc = true then (look z.2 y.1).bind fun u => (look z.2 z.1).bind fun w => (f' u w).map fun r => (R.val r, z.2) else none
      else some (.val (.fr (.bool false)), y.2)
    else none := rfl
  rw [e0, h1, Option.bind_some]
  show (gb ρ).bind _ = _
  rw [h2, Option.bind_some]
  show (f x y).bind _ = _
  rw [hf]
  show (gc ρ).bind _ = _
  rw [h3]
  show (f' y z).map _ = _
  rw [hf']; rfl
/-- a call with one argument lent, that comes back as it was -/
theorem eFnL_gen {G : Fn} {gl : M (List PyData × R × List PyData)} {as bs : List PyData} {x : R} {i : Nat} {ρ : MS} {s : Sl} {ds : List PyData} {d : PyData} (h : PS s ds) (e : ρ[i]? = some s)
    (hx : eVar i ρ = some (x, ρ)) (hgl : gl ρ = some ((as, x, bs), ρ)) (hg : ∀ s', PS s' ds → ∃ ps, G (as.map ofr ++ s' :: bs.map ofr) = some (.fr d, ps) ∧ ps[as.length]? = some (pinOnly s')) : eFnL G gl ρ = some (.val (.fr d), ρ) := by
  have e0 : eFnL G gl ρ = (gl ρ).bind fun x => match x.1.2.1 with
    | .val t => (G (x.1.1.map ofr ++ .own t :: x.1.2.2.map ofr)).map fun z => (.val z.1, x.2)
    | .bor i p => x.2[i]?.bind fun s => s.tree?.bind fun t0 => (t0.get p).bind fun t => (G (x.1.1.map ofr ++ .pin t :: x.1.2.2.map ofr)).bind fun z => match z.2[x.1.1.length]? with
      | some (.pin t') => some (.val z.1, x.2.set i (s.with (t0.put p t')))
      | _ => none := rfl
  rcases h with rfl | rfl
  · have h1 : eVar i ρ = some (.val (.fr (.list ds)), ρ) := by
      show (ρ[i]?.bind Sl.tree?).map _ = _
      rw [e]; rfl
    rw [h1] at hx
    have hx : x = .val (.fr (.list ds)) := (Prod.mk.inj (Option.some.inj hx)).1.symm
    subst hx
    rw [e0, hgl, Option.bind_some]
    show (G (as.map ofr ++ .own (.fr (.list ds)) :: bs.map ofr)).map _ = _
    obtain ⟨ps, h2, _⟩ := hg _ (.inl rfl)
    rw [h2]; rfl
  · have h1 : eVar i ρ = some (.bor i [], ρ) := by
      show (ρ[i]?.bind Sl.tree?).map _ = _
      rw [e]; rfl
    rw [h1] at hx
    have hx : x = .bor i [] := (Prod.mk.inj (Option.some.inj hx)).1.symm
    subst hx
    rw [e0, hgl, Option.bind_some]
    show (ρ[i]?.bind _) = _
    rw [e]
    show (G (as.map ofr ++ .pin (.lst (ds.map T.fr)) :: bs.map ofr)).bind _ = _
    obtain ⟨ps, h2, h3⟩ := hg _ (.inr rfl)
    rw [h2, Option.bind_some]
    show (match ps[as.length]? with
      | some (.pin t') => some (R.val (T.fr d), ρ.set i ((Sl.pin (.lst (ds.map T.fr))).with t'))
      | _ => none) = _
    rw [h3]
    show some (R.val (T.fr d), ρ.set i (.pin (.lst (ds.map T.fr)))) = _
    congr 2
    exact List.ext_getElem? fun j => by
      by_cases hj : i = j
      · subst hj
        rw [List.getElem?_set_self (List.getElem?_eq_some_iff.mp e).1, e]
      · rw [List.getElem?_set_ne hj]
theorem lHere_eq {q : Bool} {g : M R} {gs : M (List PyData)} {ρ : MS} {x : R} {ds : List PyData} (h1 : g ρ = some (x, ρ)) (h2 : gs ρ = some (ds, ρ)) (w : x.waits q = true) : lHere q g gs ρ = some (([], x, ds), ρ) := by
  have e0 : lHere q g gs ρ = (g ρ).bind fun x => (gs x.2).bind fun y => if x.1.waits q = true then some (([], x.1, y.1), y.2) else none := rfl
  rw [e0, h1, Option.bind_some]
  show (gs ρ).bind _ = _
  rw [h2]
  show (if x.waits q = true then _ else _) = _
  rw [if_pos w]
theorem lNext_eq {g : M R} {gl : M (List PyData × R × List PyData)} {ρ : MS} {d : PyData} {as bs : List PyData} {x : R} (h1 : fz g ρ = some (d, ρ)) (h2 : gl ρ = some ((as, x, bs), ρ)) : lNext g gl ρ = some ((d :: as, x, bs), ρ) := by
  have e0 : lNext g gl ρ = (fz g ρ).bind fun x => (gl x.2).map fun y => ((x.1 :: y.1.1, y.1.2.1, y.1.2.2), y.2) := rfl
  rw [e0, h1, Option.bind_some]
  show (gl ρ).map _ = _
  rw [h2]; rfl
theorem PS.wx {s : Sl} {ds : List PyData} {ρ : MS} {i : Nat} (h : PS s ds) (e : ρ[i]? = some s) : ∃ x, eVar i ρ = some (x, ρ) ∧ ∀ q, x.waits q = true := by
  obtain ⟨x, t, h1, _, _, _, _, h4⟩ := h.var e
  refine ⟨x, h1, fun q => ?_⟩
  rcases h4 with ⟨_, rfl⟩ | ⟨_, rfl⟩
  · rfl
  · exact waits0
end DL
namespace K71
open PySem PySem.Spec PyProof.Rows L2 DL
variable {rs : List Row} {ins : Int} {os sh : PyData}
theorem between_ok {s : Sl} {xs : List Nat} {m : Int} (h : PS s (natD xs)) (hl : xs.length ≤ 60) (hm : ∀ x ∈ xs, ((x : Nat) : Int) ≤ m) : f_are_between [s, ow (.int 0), ow (.int m)] = some (.fr (.bool true), [pinOnly s, .non, .non]) := by
  let ρ : MS := [s, ow (.int 0), ow (.int m), .non]
  have c1 : cNot (cTru (eFnL f_are_wholes (lHere true (eVar 0) aNil))) ρ = some (false, ρ) := cNot_eq (cTru_eq (eFnL_var h (i := 0) (ρ := ρ) rfl fun s' h' => wholes_ok h' hl) rfl rfl)
  have step : ∀ s' : Sl, ∀ d ∈ natD xs, ∃ ρ2, gNm 3 d (wipeM [3] [s', ow (.int 0), ow (.int m), .non]) = some ρ2 ∧ cYes ρ2 = some (true, ρ2) ∧ (true = true → fz (chainM true true opLe opLe (eVar 1) (eVar 3) (eVar 2)) ρ2 = some (.bool true, ρ2)) ∧ wipeM [3] ρ2 = wipeM [3] [s', ow (.int 0), ow (.int m), .non] := fun s' d hd => by
    obtain ⟨k, hk, rfl⟩ := List.mem_map.mp hd
    refine ⟨[s', ow (.int 0), ow (.int m), ow (.int (k : Nat))], rfl, rfl, fun _ => ?_, rfl⟩
    refine fz_eq (chain_eq (x := .fr (.int 0)) (y := .fr (.int (k : Nat))) (z := .fr (.int m)) rfl rfl rfl ?_ (DL.le_int _ _)) ?_
    · rw [DL.le_int, decide_eq_true (by omega)]
    · show some (PyData.bool (decide _), _) = _
      rw [decide_eq_true (hm k hk)]
  have hc : lcM (srcV T.asList (eVar 0)) [3] (gNm 3) cYes (chainM true true opLe opLe (eVar 1) (eVar 3) (eVar 2)) ρ = some (.val (.lst ((((natD xs).filter fun _ => true).map fun _ => .bool true).map T.fr)), ρ) := by
    obtain ⟨x, t, h1, h2, _, h3, _, h4⟩ := h.var (ρ := ρ) (i := 0) rfl
    have hsrc := srcV_eq h1 h2 h3
    rcases h4 with ⟨_, rfl⟩ | ⟨_, rfl⟩
    · exact lcM_pure (fun _ => true) (fun _ => .bool true) hsrc (by rw [natD_len]; exact small60 hl) (step s) rfl rfl
    · exact lcM_pure (fun _ => true) (fun _ => .bool true) hsrc (by rw [natD_len]; exact small60 hl) (step .hid) rfl rfl
  exact runFn_ret (ρ := ρ) ⟨rfl, by show (argOk s && true) = true; rw [h.out]; rfl⟩ (sSeq_eq (sIf_eq c1 rfl) (sRet_eq (all_true hc fun _ _ _ => rfl)))
end K71

namespace DL
open PySem PySem.Spec PyProof.Rows L2
theorem lc2Loop_pure {vs vs1 : List Nat} {m : GM} {c : M Bool} {src1 : Src} {m1 : GM} {c1 : M Bool} {e : M R} (f : PyData → List PyData) : ∀ {ds : List PyData} {ρ : MS}
    (h : ∀ d ∈ ds, ∃ ρ1 ρ2 ds1 hd ρz ρ3, m d (wipeM vs ρ) = some ρ1 ∧ c ρ1 = some (true, ρ1) ∧ src1 ρ1 = some ((ds1, hd), ρ2) ∧ lcLoop vs1 m1 c1 e ds1 (hideM hd ρ2) = some (f d, ρz) ∧ unhide hd ρ2 (wipeM vs1 ρz) = some ρ3 ∧ wipeM vs ρ3 = wipeM vs ρ),
    ∃ ρ', lc2Loop vs vs1 m c src1 m1 c1 e ds ρ = some ((ds.map f).flatten, ρ') ∧ wipeM vs ρ' = wipeM vs ρ
  | [], ρ, _ => ⟨ρ, rfl, rfl⟩
  | d :: ds, ρ, h => by
    obtain ⟨ρ1, ρ2, ds1, hd, ρz, ρ3, h1, h2, h3, h4, h5, h6⟩ := h d List.mem_cons_self
    obtain ⟨ρ', a, b⟩ := lc2Loop_pure (ds := ds) (ρ := ρ3) f (m := m) (c := c) (src1 := src1) (m1 := m1) (c1 := c1) (e := e) (vs := vs) (vs1 := vs1) fun x hx => by
      rw [h6]; exact h x (List.mem_cons_of_mem _ hx)
    refine ⟨ρ', ?_, b.trans h6⟩
    have e0 : lc2Loop vs vs1 m c src1 m1 c1 e (d :: ds) ρ = (m d (wipeM vs ρ)).bind fun ρ1 => (c ρ1).bind fun x => if x.1 then (src1 x.2).bind fun y => (lcLoop vs1 m1 c1 e y.1.1 (hideM y.1.2 y.2)).bind fun z => (unhide y.1.2 y.2 (wipeM vs1 z.2)).bind fun ρ3 =>
      (lc2Loop vs vs1 m c src1 m1 c1 e ds ρ3).map fun w => (z.1 ++ w.1, w.2)
      else lc2Loop vs vs1 m c src1 m1 c1 e ds x.2 := rfl
    rw [e0, h1, Option.bind_some, h2]
    show (src1 ρ1).bind _ = _
    rw [h3, Option.bind_some]
    show (lcLoop vs1 m1 c1 e ds1 (hideM hd ρ2)).bind _ = _
    rw [h4, Option.bind_some]
    show (unhide hd ρ2 (wipeM vs1 ρz)).bind _ = _
    rw [h5, Option.bind_some, a]
    rfl
theorem lc2M_eq {src : Src} {vs vs1 : List Nat} {m : GM} {c : M Bool} {src1 : Src} {m1 : GM} {c1 : M Bool} {e : M R} {ρ ρ1 ρ3 : MS} {ds : List PyData} {hd : Option Nat} (f : PyData → List PyData) (hs : src ρ = some ((ds, hd), ρ1))
    (h : ∀ d ∈ ds, ∃ ρa ρ2 ds1 hd1 ρz ρ3, m d (wipeM vs (hideM hd ρ1)) = some ρa ∧ c ρa = some (true, ρa) ∧ src1 ρa = some ((ds1, hd1), ρ2) ∧ lcLoop vs1 m1 c1 e ds1 (hideM hd1 ρ2) = some (f d, ρz) ∧ unhide hd1 ρ2 (wipeM vs1 ρz) = some ρ3 ∧ wipeM vs ρ3 = wipeM vs (hideM hd ρ1))
    (hp : (vs.all fun v => plainSl (hideM hd ρ1)[v]?) = true) (hl : ((ds.map f).flatten).length ≤ sizeLine) (hb : unhide hd ρ1 (giveBack vs (hideM hd ρ1) (wipeM vs (hideM hd ρ1))) = some ρ3) :
    lc2M src vs vs1 m c src1 m1 c1 e ρ = some (.val (.lst (((ds.map f).flatten).map T.fr)), ρ3) := by
  obtain ⟨ρ', a, b⟩ := lc2Loop_pure f h
  have e0 : lc2M src vs vs1 m c src1 m1 c1 e ρ = (src ρ).bind fun x => if (vs.all fun v => plainSl (hideM x.1.2 x.2)[v]?) = true then
    (lc2Loop vs vs1 m c src1 m1 c1 e x.1.1 (hideM x.1.2 x.2)).bind fun z => if z.1.length ≤ sizeLine then (unhide x.1.2 x.2 (giveBack vs (hideM x.1.2 x.2) (wipeM vs z.2))).map fun ρ3 => (R.val (.lst (z.1.map T.fr)), ρ3) else none else none := rfl
  rw [e0, hs, Option.bind_some]
  show (if (vs.all fun v => plainSl (hideM hd ρ1)[v]?) = true then
    (lc2Loop vs vs1 m c src1 m1 c1 e ds (hideM hd ρ1)).bind fun z => if z.1.length ≤ sizeLine then (unhide hd ρ1 (giveBack vs (hideM hd ρ1) (wipeM vs z.2))).map fun ρ3 => (R.val (.lst (z.1.map T.fr)), ρ3) else none else none) = _
  rw [if_pos hp, a, Option.bind_some]
  show (if ((ds.map f).flatten).length ≤ sizeLine then (unhide hd ρ1 (giveBack vs (hideM hd ρ1) (wipeM vs ρ'))).map _ else none) = _
  rw [if_pos hl, b, hb]
  rfl
/-- the inner loop over ints -/
theorem lcLoop_nat {vs : List Nat} {m : GM} {c : M Bool} {e : M R} {ρ : MS} (xs : List Nat) (p : Nat → Bool) (g : Nat → PyData)
    (h : ∀ k ∈ xs, ∃ ρ2, m (.int (k : Nat)) (wipeM vs ρ) = some ρ2 ∧ c ρ2 = some (p k, ρ2) ∧ (p k = true → fz e ρ2 = some (g k, ρ2)) ∧ wipeM vs ρ2 = wipeM vs ρ) :
    ∃ ρ', lcLoop vs m c e (natD xs) ρ = some ((xs.filter p).map g, ρ') ∧ wipeM vs ρ' = wipeM vs ρ := by
  rw [← natD_filter]
  refine lcLoop_pure (p := pN p) (g := gN g) fun d hd' => ?_
  obtain ⟨k, hk, rfl⟩ := List.mem_map.mp hd'
  exact h k hk
end DL
namespace K71
open PySem PySem.Spec PyProof.Rows L2 DL
variable {rs : List Row} {ins : Int} {os sh : PyData}
def LD (ls : List (List Nat)) : List PyData := ls.map fun xs => .list (natD xs)
theorem lists_ok {s : Sl} {ls : List (List Nat)} (h : PS s (LD ls)) (hl : ls.length ≤ 60) (hx : ∀ xs ∈ ls, xs.length ≤ 60) : f_are_lists_of_wholes [s] = some (.fr (.bool true), [pinOnly s]) := by
  have c1 : cNot (cTru (un (opIsi "list") (eVar 0))) [s, .non] = some (false, [s, .non]) := cNot_eq (cTru_eq (h.isi (ρ := [s, .non]) rfl) rfl rfl)
  have step : ∀ s' : Sl, ∀ d ∈ LD ls, ∃ ρ2, gNm 1 d (wipeM [1] [s', .non]) = some ρ2 ∧ cYes ρ2 = some (true, ρ2) ∧ (true = true → fz (eFnL f_are_wholes (lHere true (eVar 1) aNil)) ρ2 = some (.bool true, ρ2)) ∧ wipeM [1] ρ2 = wipeM [1] [s', .non] := fun s' d hd => by
    obtain ⟨xs, hm, rfl⟩ := List.mem_map.mp hd
    refine ⟨[s', ow (.list (natD xs))], rfl, rfl, fun _ => fz_eq (eFnL_var (s := ow (.list (natD xs))) (.inl rfl) (i := 1) rfl fun s2 h2 => wholes_ok h2 (hx xs hm)) rfl, rfl⟩
  have hc : lcM (srcV T.asList (eVar 0)) [1] (gNm 1) cYes (eFnL f_are_wholes (lHere true (eVar 1) aNil)) [s, .non] = some (.val (.lst ((((LD ls).filter fun _ => true).map fun _ => .bool true).map T.fr)), [s, .non]) := by
    obtain ⟨x, t, h1, h2, _, h3, _, h4⟩ := h.var (ρ := [s, .non]) (i := 0) rfl
    have hsrc := srcV_eq h1 h2 h3
    rcases h4 with ⟨_, rfl⟩ | ⟨_, rfl⟩
    · exact lcM_pure (fun _ => true) (fun _ => .bool true) hsrc (by unfold LD; rw [List.length_map]; exact small60 hl) (step s) rfl rfl
    · exact lcM_pure (fun _ => true) (fun _ => .bool true) hsrc (by unfold LD; rw [List.length_map]; exact small60 hl) (step .hid) rfl rfl
  exact runFn_ret (ρ := [s, .non]) ⟨rfl, by show (argOk s && true) = true; rw [h.out]; rfl⟩ (sSeq_eq (sIf_eq c1 rfl) (sRet_eq (all_true hc fun _ _ _ => rfl)))
theorem stepD_LD (R : Nat → Nat → Bool) (n : Nat) : stepD R n = LD (stepN R n) := rfl
theorem mem_step {R : Nat → Nat → Bool} {n : Nat} {xs : List Nat} (h : xs ∈ stepN R n) : ∃ l, l < deep R n ∧ xs = (List.range n).filter fun i => lev R i == l := by
  obtain ⟨l, hl, rfl⟩ := List.mem_map.mp h
  exact ⟨l, List.mem_range.mp hl, rfl⟩
theorem step_len {R : Nat → Nat → Bool} {n : Nat} {xs : List Nat} (h : xs ∈ stepN R n) : xs.length ≤ n := by
  obtain ⟨l, _, rfl⟩ := mem_step h
  have := List.length_filter_le (fun i => lev R i == l) (List.range n)
  rw [List.length_range] at this
  exact this
theorem step_rise {R : Nat → Nat → Bool} {n : Nat} {xs : List Nat} (h : xs ∈ stepN R n) : xs.Pairwise (· < ·) := by
  obtain ⟨l, _, rfl⟩ := mem_step h
  exact List.Pairwise.filter _ List.pairwise_lt_range
theorem step_flat (R : Nat → Nat → Bool) (n : Nat) : (stepN R n).flatten.Perm (List.range n) := by
  refine (List.perm_ext_iff_of_nodup ?_ List.nodup_range).mpr fun a => ?_
  · refine List.pairwise_flatten.mpr ⟨fun xs h => (step_rise h).imp fun h => Nat.ne_of_lt h, ?_⟩
    unfold stepN
    refine List.pairwise_map.mpr ((List.pairwise_lt_range).imp fun {x y} hxy a h1 b h2 hab => ?_)
    subst hab
    have e1 := (List.mem_filter.mp h1).2
    have e2 := (List.mem_filter.mp h2).2
    rw [beq_iff_eq] at e1 e2
    omega
  · rw [List.mem_flatten, List.mem_range]
    constructor
    · rintro ⟨xs, h1, h2⟩
      obtain ⟨l, _, rfl⟩ := mem_step h1
      exact List.mem_range.mp (List.mem_filter.mp h2).1
    · intro ha
      exact ⟨_, List.mem_map.mpr ⟨lev R a, List.mem_range.mpr (by have := lev_deep R n ha; omega), rfl⟩, List.mem_filter.mpr ⟨List.mem_range.mpr ha, by simp⟩⟩
theorem sorted_flat (R : Nat → Nat → Bool) (n : Nat) (hn : n ≤ 60) : opSorted (.lst ((natD (stepN R n).flatten).map T.fr)) = some (.lst ((natD (List.range n)).map T.fr)) := by
  have hp := step_flat R n
  have hp2 : ((stepN R n).flatten.map fun (k : Nat) => (k : Int)).Perm ((List.range n).map fun (k : Nat) => (k : Int)) := hp.map _
  have hs : sortI ((stepN R n).flatten.map fun (k : Nat) => (k : Int)) = (List.range n).map fun (k : Nat) => (k : Int) := by
    refine sorted_unique ((sortI_perm _).trans hp2) (sortI_sorted _) ?_
    exact List.pairwise_map.mpr ((List.pairwise_lt_range).imp fun {x y} hxy => by omega)
  unfold opSorted
  rw [view_list, Option.bind_some, natD_int, DL.ints_map, Option.map_some, hs, natD_int]
end K71

namespace DL
open PySem PySem.Spec PyProof.Rows L2
theorem put_gen {qb : Bool} {g ga gb : M R} {ρ ρ1 ρ2 ρ3 : MS} {d : PyData} {y : R} {i : Nat} {s : Sl} {t u t' : T} (h1 : fz g ρ = some (d, ρ1)) (h2 : ga ρ1 = some (.bor i [], ρ2)) (h3 : gb ρ2 = some (y, ρ3)) (l : look ρ3 y = some u) (hs : ρ3[i]? = some s) (ht : s.tree? = some t) (hp : putAny t u d = some t') :
    sPut qb putAny g ga gb ρ = some (.nx, ρ3.set i (s.with t')) := by
  have e0 : sPut qb putAny g ga gb ρ = (fz g ρ).bind fun z => (ga z.2).bind fun x => (gb x.2).bind fun y => match x.1 with
    | .bor i p => if (R.bor i p).waits qb = true then (look y.2 y.1).bind fun u => y.2[i]?.bind fun s => s.tree?.bind fun t0 => (t0.get p).bind fun t => (putAny t u z.1).map fun t' => (Fl.nx, y.2.set i (s.with (t0.put p t'))) else none
    | .val _ => none := rfl
  rw [e0, h1, Option.bind_some]
  show (ga ρ1).bind _ = _
  rw [h2, Option.bind_some]
  show (gb ρ2).bind _ = _
  rw [h3, Option.bind_some]
  show (if (R.bor i []).waits qb = true then (look ρ3 y).bind _ else none) = _
  rw [if_pos waits0, l, Option.bind_some, hs, Option.bind_some, ht, Option.bind_some]
  show (some t).bind _ = _
  rw [Option.bind_some, hp]
  rfl
theorem subs_dic {q : Bool} {f : T → T → Option T} {ga gb : M R} {ρ ρ1 ρ2 : MS} {i : Nat} {ks : List Key} {ts : List T} {y : R} {u r : T} (h1 : ga ρ = some (.bor i [], ρ1)) (h2 : gb ρ1 = some (y, ρ2)) (l1 : look ρ2 (.bor i []) = some (.dic ks ts)) (l2 : look ρ2 y = some u) (hf : f (.dic ks ts) u = some r) :
    subs q f ga gb ρ = some (.val r, ρ2) := by
  have e0 : subs q f ga gb ρ = (ga ρ).bind fun x => (gb x.2).bind fun y => match x.1 with
    | .bor i p => if (R.bor i p).waits q = true then (look y.2 (.bor i p)).bind fun t => (look y.2 y.1).bind fun u => subsK f y.2 t u i p else none
    | .val t => (look y.2 y.1).bind fun u => (f t u).map fun r => (.val r, y.2) := rfl
  rw [e0, h1, Option.bind_some]
  show (gb ρ1).bind _ = _
  rw [h2, Option.bind_some]
  show (if (R.bor i []).waits q = true then (look ρ2 (.bor i [])).bind fun t => (look ρ2 y).bind fun u => subsK f ρ2 t u i [] else none) = _
  rw [if_pos waits0, l1, Option.bind_some, l2, Option.bind_some]
  show (f (.dic ks ts) u).map _ = _
  rw [hf]; rfl
def inlK (a : Nat) : Key := Sum.inl (a : Int)
/-- a dict from ints to data -/
def dT (v : Nat → PyData) (kv : List Nat) : T := .dic (kv.map inlK) (kv.map fun a => T.fr (v a))
theorem dic_any (kv : List Nat) (a : Nat) : ((kv.map inlK).any fun j => decide (j = inlK a)) = decide (a ∈ kv) := by
  induction kv with
  | nil => rfl
  | cons b kv ih =>
    rw [List.map_cons, List.any_cons, ih]
    by_cases h : b = a
    · subst h; simp
    · have h1 : ¬ inlK b = inlK a := fun z => h (by unfold inlK at z; injection z with z; omega)
      rw [decide_eq_false h1, Bool.false_or]
      have : (a ∈ b :: kv) ↔ a ∈ kv := by simp [Ne.symm h]
      exact (decide_eq_decide.mpr this).symm
theorem dic_repl (v : Nat → PyData) (kv : List Nat) (a : Nat) : List.zipWith (fun j t => if j = (inlK a) then T.fr (v a) else t) (kv.map inlK) (kv.map fun a => T.fr (v a)) = kv.map fun a => T.fr (v a) := by
  induction kv with
  | nil => rfl
  | cons b kv ih =>
    rw [List.map_cons, List.map_cons, List.zipWith_cons_cons, ih]
    by_cases h : b = a
    · subst h; rw [if_pos rfl]
    · rw [if_neg fun z => h (by unfold inlK at z; injection z with z; omega)]
def addK (kv : List Nat) (a : Nat) : List Nat := if a ∈ kv then kv else kv ++ [a]
theorem put_dT {v : Nat → PyData} {kv : List Nat} {a : Nat} (h : kv.length < sizeLine) : putAny (dT v kv) (.fr (.int (a : Int))) (v a) = some (dT v (addK kv a)) := by
  have e0 : putAny (dT v kv) (.fr (.int (a : Int))) (v a) = if (kv.map inlK).length < sizeLine then some (.dic (dicPut (kv.map inlK) (kv.map fun a => T.fr (v a)) (inlK a) (.fr (v a))).1 (dicPut (kv.map inlK) (kv.map fun a => T.fr (v a)) (inlK a) (.fr (v a))).2) else none := rfl
  rw [e0, if_pos (by rw [List.length_map]; exact h)]
  unfold dicPut dT addK
  rw [dic_any]
  by_cases hm : a ∈ kv
  · rw [if_pos (decide_eq_true hm), if_pos hm, dic_repl]
  · rw [if_neg (by rw [decide_eq_false hm]; exact Bool.false_ne_true), if_neg hm, List.map_append, List.map_append]
    rfl
theorem get_dT {v : Nat → PyData} {kv : List Nat} {a : Nat} (h : a ∈ kv) : opIx (dT v kv) (.fr (.int (a : Int))) = some (.fr (v a)) := by
  have e : dicGet (kv.map inlK) (kv.map fun a => T.fr (v a)) (inlK a) = some (.fr (v a)) := by
    induction kv with
    | nil => cases h
    | cons b kv ih =>
      rw [List.map_cons, List.map_cons]
      unfold dicGet
      by_cases hb : b = a
      · subst hb; rw [if_pos rfl]
      · rw [if_neg fun z => hb (by unfold inlK at z; injection z with z; omega)]
        exact ih (by simpa [Ne.symm hb] using h)
  show ((some (inlK a)).bind fun k => match dicGet (kv.map inlK) (kv.map fun a => T.fr (v a)) k with
    | some (.fr d) => some (T.fr d)
    | _ => none) = _
  rw [Option.bind_some, e]
theorem ne_self {ds : List PyData} (h : SeqAt.shaped (.list ds) = true) : opNe (.lst (ds.map T.fr)) (.lst (ds.map T.fr)) = some (.fr (.bool false)) := by
  unfold opNe
  rw [erase_lst, Option.bind_some, Option.bind_some]
  unfold eqD
  rw [if_neg (show ¬ scalD (.list ds) (.list ds) = true from Bool.false_ne_true), h, if_pos (show (true && true) = true from rfl), SeqAt.eqv_refl _ (SeqAt.canLay_of_shaped h)]
  rfl
theorem flat_len {α β : Type} {f : α → List β} {b : Nat} : ∀ {xs : List α}, (∀ x ∈ xs, (f x).length ≤ b) → ((xs.map f).flatten).length ≤ xs.length * b
  | [], _ => by simp
  | x :: xs, h => by
    have h1 := h x List.mem_cons_self
    have h2 := flat_len (xs := xs) fun y hy => h y (List.mem_cons_of_mem _ hy)
    rw [List.map_cons, List.flatten_cons, List.length_append, List.length_cons, Nat.succ_mul]
    omega
theorem eRange1_eq {g : M R} {ρ ρ1 : MS} {x : R} {n : Nat} (h : g ρ = some (x, ρ1)) (hl : look ρ1 x = some (.fr (.int (n : Int)))) (hn : n ≤ 1000) : eRange1 g ρ = some (.val (.lst ((natD (List.range n)).map T.fr)), ρ1) := by
  have e0 : eRange1 g ρ = (g ρ).bind fun x => (look x.2 x.1).bind fun t => t.asInt.bind fun n => if rgLine 0 n then some (.val (.lst ((rngD 0 n.toNat).map T.fr)), x.2) else none := rfl
  rw [e0, h, Option.bind_some]
  show (look ρ1 x).bind _ = _
  rw [hl, Option.bind_some]
  rw [show (T.fr (PyData.int (n : Int))).asInt = some (n : Int) from rfl, Option.bind_some]
  have hr : rgLine 0 (n : Int) = true := by
    unfold rgLine
    rw [bnd_small (by omega) (by omega), bnd_small (by omega) (by omega)]
    exact decide_eq_true (by omega)
  rw [if_pos hr]
  have : rngD 0 (n : Int).toNat = natD (List.range n) := by
    unfold rngD natD
    exact List.map_congr_left fun k _ => by rw [Int.zero_add]
  rw [this]
end DL

namespace K71
open PySem PySem.Spec PyProof.Rows L2 DL
variable {rs : List Row} {ins : Int} {os sh : PyData}
def sub1 : PyData → List PyData
  | .list es => es
  | _ => []
def pairsF (R : Nat → Nat → Bool) : PyData → List PyData
  | .int z => ((List.range z.toNat).filter fun i => R i z.toNat).map fun i => .tuple [.int (i : Nat), .int ((z.toNat : Nat) : Int)]
  | _ => []
theorem mem_pairs {R : Nat → Nat → Bool} {n : Nat} {d : PyData} (h : d ∈ ((natD (List.range n)).map (pairsF R)).flatten) : ∃ i j, i < j ∧ j < n ∧ R i j = true ∧ d = .tuple [.int (i : Nat), .int (j : Nat)] := by
  obtain ⟨xs, h1, h2⟩ := List.mem_flatten.mp h
  obtain ⟨z, h3, rfl⟩ := List.mem_map.mp h1
  obtain ⟨j, hj, rfl⟩ := List.mem_map.mp h3
  obtain ⟨i, hi, rfl⟩ := List.mem_map.mp h2
  obtain ⟨h4, h5⟩ := List.mem_filter.mp hi
  exact ⟨i, j, List.mem_range.mp h4, List.mem_range.mp hj, h5, rfl⟩
theorem shows_steps_ok (G : Good rs) {s : Sl} (h : PS s (stepD (RR rs) rs.length)) : f_shows_steps [ow (coreD ins rs os sh), s] = some (.fr (.bool true), [.non, pinOnly s]) := by
  let R := RR rs
  let n := rs.length
  have hn : n ≤ 60 := G.1
  let c0 := coreD ins rs os sh
  let ls := stepN R n
  have h : PS s (LD ls) := h
  have hll : ls.length ≤ 60 := by show (stepN R n).length ≤ 60; unfold stepN; rw [List.length_map, List.length_range]; have := deep_le R n; omega
  have hlx : ∀ xs ∈ ls, xs.length ≤ 60 := fun xs hx => Nat.le_trans (step_len hx) hn
  have hLD : (LD ls).length = ls.length := List.length_map _
  have hlen : (rs.map Row.enc).length = n := List.length_map _
  let Z : Sl → Sl → Sl → MS := fun s' s3 s4 => [ow c0, s', ow (rowsD rs), s3, s4, .non, .non, .non, .non, .non]
  let ρ : MS := Z s .non .non
  have hln : ∀ ρ : MS, ρ[2]? = some (ow (rowsD rs)) → un opLen (eVar 2) ρ = some (.val (.fr (.int (n : Int))), ρ) := fun ρ h => by
    refine un_eq (x := .val (.fr (rowsD rs))) (t := .fr (rowsD rs)) ?_ rfl ?_
    · show (ρ[2]?.bind Sl.tree?).map _ = _
      rw [h]; rfl
    · show some (T.fr (.int (((rs.map Row.enc).length : Nat) : Int))) = _
      rw [hlen]
  -- the first test
  have c1 : cNot (cTru (eFnL f_are_lists_of_wholes (lHere true (eVar 1) aNil))) ρ = some (false, ρ) := cNot_eq (cTru_eq (eFnL_var h (i := 1) (ρ := ρ) rfl fun s' h' => lists_ok h' hll hlx) rfl rfl)
  have step2 : ∀ s' : Sl, ∀ d ∈ LD ls, ∃ ρ2, gNm 6 d (wipeM [6] (Z s' .non .non)) = some ρ2 ∧ cYes ρ2 = some (true, ρ2) ∧ (true = true → fz (eFnL f_is_rising (lHere true (eVar 6) aNil)) ρ2 = some (.bool true, ρ2)) ∧ wipeM [6] ρ2 = wipeM [6] (Z s' .non .non) := fun s' d hd => by
    obtain ⟨xs, hm, rfl⟩ := List.mem_map.mp hd
    refine ⟨[ow c0, s', ow (rowsD rs), .non, .non, .non, ow (.list (natD xs)), .non, .non, .non], rfl, rfl, fun _ => fz_eq (eFnL_var (s := ow (.list (natD xs))) (.inl rfl) (i := 6) rfl fun s2 h2 => rising_ok h2 (hlx xs hm) (step_rise hm)) rfl, rfl⟩
  have hc2 : lcM (srcV T.asList (eVar 1)) [6] (gNm 6) cYes (eFnL f_is_rising (lHere true (eVar 6) aNil)) ρ = some (.val (.lst ((((LD ls).filter fun _ => true).map fun _ => .bool true).map T.fr)), ρ) := by
    obtain ⟨x, t, h1, h2, _, h3, _, h4⟩ := h.var (ρ := ρ) (i := 1) rfl
    have hsrc := srcV_eq h1 h2 h3
    rcases h4 with ⟨_, rfl⟩ | ⟨_, rfl⟩
    · exact lcM_pure (fun _ => true) (fun _ => .bool true) hsrc (by rw [hLD]; exact small60 hll) (step2 s) rfl rfl
    · exact lcM_pure (fun _ => true) (fun _ => .bool true) hsrc (by rw [hLD]; exact small60 hll) (step2 .hid) rfl rfl
  have c2 : cNot (cTru (un opAll (lcM (srcV T.asList (eVar 1)) [6] (gNm 6) cYes (eFnL f_is_rising (lHere true (eVar 6) aNil))))) ρ = some (false, ρ) := cNot_eq (cTru_eq (all_true hc2 fun _ _ _ => rfl) rfl rfl)
  -- the rows in the steps
  have step3 : ∀ s' : Sl, ∀ d ∈ LD ls, ∃ ρa ρ2 ds1 hd1 ρz ρ3, gNm 6 d (wipeM [6, 7] (Z s' .non .non)) = some ρa ∧ cYes ρa = some (true, ρa) ∧ srcV T.asList (eVar 6) ρa = some ((ds1, hd1), ρ2) ∧ lcLoop [7] (gNm 7) cYes (eVar 7) ds1 (hideM hd1 ρ2) = some (sub1 d, ρz) ∧ unhide hd1 ρ2 (wipeM [7] ρz) = some ρ3 ∧ wipeM [6, 7] ρ3 = wipeM [6, 7] (Z s' .non .non) := fun s' d hd => by
    obtain ⟨xs, hm, rfl⟩ := List.mem_map.mp hd
    let ρa : MS := [ow c0, s', ow (rowsD rs), .non, .non, .non, ow (.list (natD xs)), .non, .non, .non]
    obtain ⟨ρz, a, b⟩ := lcLoop_nat (vs := [7]) (m := gNm 7) (c := cYes) (e := eVar 7) (ρ := ρa) xs (fun _ => true) (fun k => .int (k : Nat)) fun k hk => ⟨[ow c0, s', ow (rowsD rs), .non, .non, .non, ow (.list (natD xs)), ow (.int (k : Nat)), .non, .non], rfl, rfl, fun _ => rfl, rfl⟩
    have e : (xs.filter fun _ => true).map (fun k => PyData.int ((k : Nat) : Int)) = natD xs := by rw [List.filter_eq_self.mpr fun _ _ => rfl]; rfl
    rw [e] at a
    exact ⟨ρa, ρa, natD xs, none, ρz, wipeM [7] ρz, rfl, rfl, rfl, a, rfl, by rw [b]; rfl⟩
  have hflat : ((LD ls).map sub1).flatten = natD ls.flatten := by
    unfold LD natD
    rw [List.map_map, List.map_flatten]
    rfl
  have hfl : (natD ls.flatten).length ≤ sizeLine := by rw [natD_len, (step_flat R n).length_eq, List.length_range]; exact small60 hn
  have hc3 : lc2M (srcV T.asList (eVar 1)) [6, 7] [7] (gNm 6) cYes (srcV T.asList (eVar 6)) (gNm 7) cYes (eVar 7) ρ = some (.val (.lst ((natD ls.flatten).map T.fr)), ρ) := by
    rw [← hflat]
    obtain ⟨x, t, h1, h2, _, h3, _, h4⟩ := h.var (ρ := ρ) (i := 1) rfl
    have hsrc := srcV_eq h1 h2 h3
    rcases h4 with ⟨_, rfl⟩ | ⟨_, rfl⟩
    · exact lc2M_eq sub1 hsrc (step3 s) rfl (by rw [hflat]; exact hfl) rfl
    · exact lc2M_eq sub1 hsrc (step3 .hid) rfl (by rw [hflat]; exact hfl) rfl
  have c3 : cOf (bin true opNe (un opSorted (lc2M (srcV T.asList (eVar 1)) [6, 7] [7] (gNm 6) cYes (srcV T.asList (eVar 6)) (gNm 7) cYes (eVar 7))) (eRange1 (un opLen (eVar 2)))) ρ = some (false, ρ) :=
    cOf_eq (bin_eq (un_eq hc3 rfl (sorted_flat R n hn)) (eRange1_eq (hln ρ rfl) rfl (by omega)) rfl rfl rfl (ne_self (lay_nat _))) rfl
  -- the table
  let v : Nat → PyData := fun a => .int ((lev R a : Nat) : Int)
  let ρ1 : MS := Z s (.own (.dic [] [])) .non
  have s3 : sSet 3 eDic ρ = some (.nx, ρ1) := rfl
  have table : ∃ kv s5 s6 s7, (∀ a, a < n → a ∈ kv) ∧ sFor (srcV T.asEnum (eVar 1)) (gTp 2 (gC (gNm 5) (gC (gNm 6) (gN0)))) (sFor (srcV T.asList (eVar 6)) (gNm 7) (sPut true putAny (eVar 5) (eVar 3) (eVar 7))) ρ1
      = some (.nx, [ow c0, s, ow (rowsD rs), .own (dT v kv), .non, s5, s6, s7, .non, .non]) ∧ plainSl (some s5) = true ∧ plainSl (some s6) = true ∧ plainSl (some s7) = true := by
    have hen : ∀ x t, eVar 1 ρ1 = some (x, ρ1) → look ρ1 x = some t → t.asList = some (LD ls) → srcV T.asEnum (eVar 1) ρ1 = some (((LD ls).zipIdx.map fun z => .tuple [.int (z.2 : Nat), z.1], hideOf x), ρ1) := fun x t h1 h2 h3 => by
      refine srcV_eq h1 h2 ?_
      show t.asList.map _ = _
      rw [h3]; rfl
    have go : ∀ (s' : Sl) (hd : Option Nat), srcV T.asEnum (eVar 1) ρ1 = some (((LD ls).zipIdx.map fun z => PyData.tuple [.int (z.2 : Nat), z.1], hd), ρ1) → hideM hd ρ1 = Z s' (.own (.dic [] [])) .non → (∀ s3 s5 s6 s7, unhide hd ρ1 [ow c0, s', ow (rowsD rs), s3, .non, s5, s6, s7, .non, .non] = some [ow c0, s, ow (rowsD rs), s3, .non, s5, s6, s7, .non, .non]) →
        ∃ kv s5 s6 s7, (∀ a, a < n → a ∈ kv) ∧ sFor (srcV T.asEnum (eVar 1)) (gTp 2 (gC (gNm 5) (gC (gNm 6) (gN0)))) (sFor (srcV T.asList (eVar 6)) (gNm 7) (sPut true putAny (eVar 5) (eVar 3) (eVar 7))) ρ1
      = some (.nx, [ow c0, s, ow (rowsD rs), .own (dT v kv), .non, s5, s6, s7, .non, .non]) ∧ plainSl (some s5) = true ∧ plainSl (some s6) = true ∧ plainSl (some s7) = true := fun s' hd hsrc hh hub => by
      let S : Nat → MS → Prop := fun l ρ => ∃ kv s5 s6 s7, (∀ a, a < n → lev R a < l → a ∈ kv) ∧ kv.length ≤ 60 * l ∧ Fre s5 ∧ Fre s6 ∧ Fre s7 ∧ ρ = [ow c0, s', ow (rowsD rs), .own (dT v kv), .non, s5, s6, s7, .non, .non]
      have hzl : ((LD ls).zipIdx.map fun z => PyData.tuple [.int (z.2 : Nat), z.1]).length = ls.length := by simp [hLD]
      obtain ⟨ρ', ρ3, ⟨kv, s5, s6, s7, k1, k2, f5, f6, f7, e⟩, hu, hf⟩ := sFor_inv (m := gTp 2 (gC (gNm 5) (gC (gNm 6) (gN0)))) (n := sFor (srcV T.asList (eVar 6)) (gNm 7) (sPut true putAny (eVar 5) (eVar 3) (eVar 7)))
        hsrc S ⟨[], .non, .non, .non, fun a _ h => by omega, Nat.zero_le _, .inl rfl, .inl rfl, .inl rfl, hh⟩ (fun l ρ hl hS => by
          obtain ⟨kv, s5, s6, s7, k1, k2, f5, f6, f7, rfl⟩ := hS
          have hl' : l < ls.length := by rw [hzl] at hl; exact hl
          have hld : l < deep R n := by
            have : ls.length = deep R n := by show (stepN R n).length = _; unfold stepN; rw [List.length_map, List.length_range]
            omega
          let xs := ls[l]
          have hxs : xs = (List.range n).filter fun i => lev R i == l := by
            show (stepN R n)[l]'hl' = _
            exact (List.getElem_of_eq (show stepN R n = (List.range (deep R n)).map fun l => (List.range n).filter fun i => lev R i == l from rfl) hl').trans ((List.getElem_map _).trans (by rw [List.getElem_range]))
          have hxl : xs.length ≤ 60 := hlx _ (List.getElem_mem _)
          have el : ((LD ls).zipIdx.map fun z => PyData.tuple [.int (z.2 : Nat), z.1])[l]'hl = .tuple [.int (l : Nat), .list (natD xs)] := by
            simp only [List.getElem_map, List.getElem_zipIdx, Nat.zero_add]
            congr 2
            congr 1
            exact (List.getElem_of_eq (show LD ls = ls.map fun xs => .list (natD xs) from rfl) _).trans (List.getElem_map _)
          let ρa : MS := [ow c0, s', ow (rowsD rs), .own (dT v kv), .non, ow (.int (l : Nat)), ow (.list (natD xs)), s7, .non, .non]
          have hs2 : srcV T.asList (eVar 6) ρa = some ((natD xs, none), ρa) := rfl
          let S2 : Nat → MS → Prop := fun j ρ => ∃ kv' s7, (∀ a ∈ kv, a ∈ kv') ∧ (∀ a ∈ xs.take j, a ∈ kv') ∧ kv'.length ≤ kv.length + j ∧ Fre s7 ∧ ρ = [ow c0, s', ow (rowsD rs), .own (dT v kv'), .non, ow (.int (l : Nat)), ow (.list (natD xs)), s7, .non, .non]
          obtain ⟨ρ4, ρ5, ⟨kv', s7', q1, q2, q3, g7, e4⟩, hu2, hf2⟩ := sFor_inv (m := gNm 7) (n := sPut true putAny (eVar 5) (eVar 3) (eVar 7)) hs2 S2
            ⟨kv, s7, fun a m => m, fun a m => by simp at m, Nat.le_refl _, f7, rfl⟩ (fun j ρ hj hS => by
              obtain ⟨kv', s7, q1, q2, q3, g7, rfl⟩ := hS
              have hj' : j < xs.length := by rw [natD_len] at hj; exact hj
              let a := xs[j]
              have hmm : ∀ x, x ∈ xs → lev R x = l := fun x hx => by
                rw [hxs] at hx
                exact beq_iff_eq.mp (List.mem_filter.mp hx).2
              have ha : lev R a = l := hmm _ (List.getElem_mem _)
              let ρb : MS := [ow c0, s', ow (rowsD rs), .own (dT v kv'), .non, ow (.int (l : Nat)), ow (.list (natD xs)), ow (.int (a : Nat)), .non, .non]
              have hput := put_dT (v := v) (kv := kv') (a := a) (by rw [sizeLine_eq]; omega)
              have hp := put_gen (qb := true) (g := eVar 5) (ga := eVar 3) (gb := eVar 7) (ρ := ρb) (i := 3) (s := .own (dT v kv')) (t := dT v kv') (u := .fr (.int (a : Nat))) (d := v a) (t' := dT v (addK kv' a)) (by show some (PyData.int (l : Nat), ρb) = some (PyData.int ((lev R a : Nat) : Int), ρb); rw [ha]) rfl rfl rfl rfl rfl hput
              have hadd : ∀ x, x ∈ kv' → x ∈ addK kv' a := fun x hx => by
                unfold addK
                split
                · exact hx
                · exact List.mem_append_left _ hx
              have hself : a ∈ addK kv' a := by
                unfold addK
                split
                · assumption
                · simp
              refine ⟨ρb, _, ?_, .inl hp, addK kv' a, _, fun x hx => hadd x (q1 x hx), fun x hx => ?_, ?_, .inr ⟨_, rfl⟩, rfl⟩
              · rw [natD_get hj]
                rcases g7 with rfl | ⟨d, rfl⟩ <;> rfl
              · rw [List.take_add_one, List.getElem?_eq_getElem hj'] at hx
                rcases List.mem_append.mp hx with hx | hx
                · exact hadd x (q2 x hx)
                · have : x = a := by simpa using hx
                  rw [this]; exact hself
              · unfold addK
                split
                · omega
                · rw [List.length_append]; simp; omega) (fun ρ' _ => ⟨ρ', rfl⟩)
          rw [natD_len] at q2 q3
          subst e4
          have hu2 := Option.some.inj hu2
          subst hu2
          refine ⟨ρa, _, ?_, .inl hf2, kv', _, _, _, fun a ha hla => ?_, by omega, .inr ⟨_, rfl⟩, .inr ⟨_, rfl⟩, g7, rfl⟩
          · rw [el]
            rcases f5 with rfl | ⟨d5, rfl⟩ <;> rcases f6 with rfl | ⟨d6, rfl⟩ <;> rfl
          · by_cases hla' : lev R a < l
            · exact q1 a (k1 a ha hla')
            · refine q2 a ?_
              rw [List.take_length, hxs]
              exact List.mem_filter.mpr ⟨List.mem_range.mpr ha, by simp; omega⟩) (fun ρ' hS => by
          obtain ⟨kv, s5, s6, s7, _, _, _, _, _, rfl⟩ := hS
          exact ⟨_, hub _ _ _ _⟩)
      subst e
      rw [hub] at hu
      have hu := Option.some.inj hu
      subst hu
      refine ⟨kv, s5, s6, s7, fun a ha => k1 a ha ?_, hf, ?_, ?_, ?_⟩
      · rw [hzl]
        have : ls.length = deep R n := by show (stepN R n).length = _; unfold stepN; rw [List.length_map, List.length_range]
        have := lev_deep R n ha
        omega
      · rcases f5 with rfl | ⟨d, rfl⟩ <;> rfl
      · rcases f6 with rfl | ⟨d, rfl⟩ <;> rfl
      · rcases f7 with rfl | ⟨d, rfl⟩ <;> rfl
    obtain ⟨x, t, h1, h2, _, h3, _, h4⟩ := h.var (ρ := ρ1) (i := 1) rfl
    have hsrc := hen x t h1 h2 h3
    rcases h4 with ⟨_, rfl⟩ | ⟨_, rfl⟩
    · exact go s none hsrc rfl fun _ _ _ _ => rfl
    · exact go .hid (some 1) hsrc rfl fun _ _ _ _ => rfl
  obtain ⟨kv, s5, s6, s7, hkv, hft, p5, p6, p7⟩ := table
  let ρ2 : MS := [ow c0, s, ow (rowsD rs), .own (dT v kv), .non, s5, s6, s7, .non, .non]
  -- the pairs
  let PL := ((natD (List.range n)).map (pairsF R)).flatten
  have hPL : PL.length ≤ sizeLine := by
    have := flat_len (f := pairsF R) (b := 60) (xs := natD (List.range n)) fun d hd => by
      obtain ⟨j, hj, rfl⟩ := List.mem_map.mp hd
      have hj := List.mem_range.mp hj
      show (((List.range j).filter fun i => R i j).map _).length ≤ 60
      rw [List.length_map]
      have h1 := List.length_filter_le (fun i => R i j) (List.range j)
      rw [List.length_range] at h1
      omega
    rw [natD_len, List.length_range] at this
    rw [sizeLine_eq]
    show (((natD (List.range n)).map (pairsF R)).flatten).length ≤ _
    have : n * 60 ≤ 3600 := Nat.mul_le_mul_right 60 hn
    omega
  have hc4 : lc2M (srcR rng1 (aCons (un opLen (eVar 2)) (aNil))) [8, 9] [9] (gNm 8) (cYes) (srcR rng1 (aCons (eVar 8) (aNil))) (gNm 9) (cTru (eFn f_hang_together (aCons (subs true opIx (eVar 2) (eVar 9)) (aCons (subs true opIx (eVar 2) (eVar 8)) (aNil))))) (eTup (aCons (eVar 9) (aCons (eVar 8) (aNil)))) ρ2
      = some (.val (.lst (PL.map T.fr)), ρ2) := by
    refine lc2M_eq (hd := none) (ρ1 := ρ2) (pairsF R) (srcR_eq (ds := [.int (n : Int)]) (aCons_eq (hln ρ2 rfl) rfl rfl) (rng1_nat (by omega))) (fun d hd => ?_) rfl hPL rfl
    obtain ⟨j, hj, rfl⟩ := List.mem_map.mp hd
    have hj := List.mem_range.mp hj
    let ρa : MS := [ow c0, s, ow (rowsD rs), .own (dT v kv), .non, s5, s6, s7, ow (.int (j : Nat)), .non]
    obtain ⟨ρz, a, b⟩ := lcLoop_nat (vs := [9]) (m := gNm 9) (c := cTru (eFn f_hang_together (aCons (subs true opIx (eVar 2) (eVar 9)) (aCons (subs true opIx (eVar 2) (eVar 8)) (aNil))))) (e := eTup (aCons (eVar 9) (aCons (eVar 8) (aNil)))) (ρ := ρa) (List.range j) (fun i => R i j) (fun i => .tuple [.int (i : Nat), .int (j : Nat)]) fun i hi => by
      have hi := List.mem_range.mp hi
      let ρb : MS := [ow c0, s, ow (rowsD rs), .own (dT v kv), .non, s5, s6, s7, ow (.int (j : Nat)), ow (.int (i : Nat))]
      refine ⟨ρb, rfl, ?_, fun _ => rfl, rfl⟩
      have a1 : aCons (subs true opIx (eVar 2) (eVar 9)) (aCons (subs true opIx (eVar 2) (eVar 8)) aNil) ρb = some ([(rs[i]'(by show i < n; omega)).enc, (rs[j]'hj).enc], ρb) :=
        aCons_eq (subs_val rfl rfl rfl (rows_at (by show i < n; omega))) rfl (aCons_eq (subs_val rfl rfl rfl (rows_at hj)) rfl rfl)
      exact cTru_eq (eFn_eq a1 (hang_at G (by show i < n; omega) hj)) rfl rfl
    exact ⟨ρa, ρa, natD (List.range j), none, ρz, wipeM [9] ρz, rfl, rfl, srcR_eq (ds := [.int (j : Int)]) rfl (rng1_nat (by omega)), a, rfl, by rw [b]; rfl⟩
  let ρ3 : MS := [ow c0, s, ow (rowsD rs), .own (dT v kv), .own (.lst (PL.map T.fr)), s5, s6, s7, .non, .non]
  have s4 : sSet 4 _ ρ2 = some (.nx, ρ3) := sSet_val (i := 4) (ρ1 := ρ2) hc4 rfl
  have hs5 : srcV T.asList (eVar 4) ρ3 = some ((PL, some 4), ρ3) := srcV_eq (x := .bor 4 []) rfl rfl (view_list _)
  have hc5 := lcM_pure (vs := [9, 8]) (m := gTp 2 (gC (gNm 9) (gC (gNm 8) (gN0)))) (c := cYes) (e := bin true opLt (subs true opIx (eVar 3) (eVar 9)) (subs true opIx (eVar 3) (eVar 8))) (ρ3 := ρ3) (fun _ => true) (fun _ => .bool true) hs5 hPL (fun d hd => by
    obtain ⟨i, j, hij, hj, hR, rfl⟩ := mem_pairs hd
    let ρb : MS := [ow c0, s, ow (rowsD rs), .own (dT v kv), .hid, s5, s6, s7, ow (.int (j : Nat)), ow (.int (i : Nat))]
    refine ⟨ρb, rfl, rfl, fun _ => ?_, rfl⟩
    have b1 := subs_dic (q := true) (f := opIx) (ga := eVar 3) (gb := eVar 9) (ρ := ρb) (i := 3) rfl rfl rfl rfl (get_dT (v := v) (hkv i (by omega)))
    have b2 := subs_dic (q := true) (f := opIx) (ga := eVar 3) (gb := eVar 8) (ρ := ρb) (i := 3) rfl rfl rfl rfl (get_dT (v := v) (hkv j hj))
    have := lev_lt R hij hR
    refine fz_eq (bin_eq b1 b2 rfl rfl rfl (DL.lt_int _ _)) ?_
    show some (PyData.bool (decide (((lev R i : Nat) : Int) < ((lev R j : Nat) : Int))), ρb) = _
    rw [decide_eq_true (by omega)]) rfl rfl
  exact runFn_ret (ρ := ρ3) ⟨rfl, by show (argOk s && true) = true; rw [h.out]; rfl⟩ (sSeq_eq (ρ1 := ρ) rfl (sSeq_eq (sIf_eq (cOr_eq c1 (by rw [if_neg Bool.false_ne_true]; exact c2)) rfl) (sSeq_eq (sIf_eq c3 rfl) (sSeq_eq s3 (sSeq_eq hft (sSeq_eq s4 (sRet_eq (all_true hc5 fun _ _ _ => rfl))))))))
end K71

namespace DL
open PySem PySem.Spec PyProof.Rows L2
theorem set_self {α : Type} {xs : List α} {k : Nat} {x : α} (h : xs[k]? = some x) : xs.set k x = xs := List.ext_getElem? fun j => by
  by_cases hj : k = j
  · subst hj
    rw [List.getElem?_set_self (List.getElem?_eq_some_iff.mp h).1, h]
  · rw [List.getElem?_set_ne hj]
theorem subs_kid {q : Bool} {f : T → T → Option T} {gb : M R} {ρ : MS} {i : Nat} {s : Sl} {t : T} {ts : List T} {y : R} {k : Nat} (e : ρ[i]? = some s) (et : s.tree? = some t) (hk : t = .lst ts ∨ t = .tup ts) (h2 : gb ρ = some (y, ρ)) (l2 : look ρ y = some (.fr (.int (k : Int)))) (hlt : k < ts.length) :
    subs q f (eVar i) gb ρ = some (ofKid i [] k ts[k], ρ) := by
  have e0 : subs q f (eVar i) gb ρ = (eVar i ρ).bind fun x => (gb x.2).bind fun y => match x.1 with
    | .bor i p => if (R.bor i p).waits q = true then (look y.2 (.bor i p)).bind fun t => (look y.2 y.1).bind fun u => subsK f y.2 t u i p else none
    | .val t => (look y.2 y.1).bind fun u => (f t u).map fun r => (.val r, y.2) := rfl
  have h1 : eVar i ρ = some (.bor i [], ρ) := by
    show (ρ[i]?.bind Sl.tree?).map _ = _
    rw [e, Option.bind_some, et]
    rcases hk with rfl | rfl <;> rfl
  rw [e0, h1, Option.bind_some]
  show (gb ρ).bind _ = _
  rw [h2, Option.bind_some]
  show (if (R.bor i []).waits q = true then (look ρ (.bor i [])).bind fun t => (look ρ y).bind fun u => subsK f ρ t u i [] else none) = _
  have l1 : look ρ (.bor i []) = some t := by
    show (ρ[i]?.bind Sl.tree?).bind _ = _
    rw [e, Option.bind_some, et]; rfl
  rw [if_pos waits0, l1, Option.bind_some, l2, Option.bind_some]
  have h3 : subsK f ρ t (.fr (.int (k : Int))) i [] = (((some (k : Int)).bind fun z => ixN ts.length z).bind fun k => ts[k]?.map fun c => ofKid i [] k c).map fun r => (r, ρ) := by
    rcases hk with rfl | rfl <;> rfl
  rw [h3, Option.bind_some, ixN_nat hlt, Option.bind_some, List.getElem?_eq_getElem hlt]
  rfl
theorem eFnL_kid {G : Fn} {gl : M (List PyData × R × List PyData)} {bs : List PyData} {i k : Nat} {ρ : MS} {s : Sl} {t c : T} {ts : List T} {d : PyData} (e : ρ[i]? = some s) (et : s.tree? = some t) (hk : t = .lst ts ∨ t = .tup ts) (hc : ts[k]? = some c)
    (hgl : gl ρ = some (([], ofKid i [] k c, bs), ρ)) (hg : ∀ s', (s' = .own c ∨ s' = .pin c) → ∃ ps, G (s' :: bs.map ofr) = some (.fr d, ps) ∧ ps[0]? = some (pinOnly s')) : eFnL G gl ρ = some (.val (.fr d), ρ) := by
  have e0 : eFnL G gl ρ = (gl ρ).bind fun x => match x.1.2.1 with
    | .val t => (G (x.1.1.map ofr ++ .own t :: x.1.2.2.map ofr)).map fun z => (.val z.1, x.2)
    | .bor i p => x.2[i]?.bind fun s => s.tree?.bind fun t0 => (t0.get p).bind fun t => (G (x.1.1.map ofr ++ .pin t :: x.1.2.2.map ofr)).bind fun z => match z.2[x.1.1.length]? with
      | some (.pin t') => some (.val z.1, x.2.set i (s.with (t0.put p t')))
      | _ => none := rfl
  have hkids : t.kids = some ts := by rcases hk with rfl | rfl <;> rfl
  have hget : t.get [k] = some c := by
    show (t.kids.bind fun ts => ts[k]?).bind _ = _
    rw [hkids, Option.bind_some, hc]; rfl
  have hput : t.put [k] c = t := by
    show (match t.kids with | none => t | some ts => match ts[k]? with | none => t | some x => t.withKids (ts.set k (x.put [] c))) = t
    rw [hkids]
    show (match ts[k]? with | none => t | some x => t.withKids (ts.set k (x.put [] c))) = t
    rw [hc]
    show t.withKids (ts.set k c) = t
    rw [set_self hc]
    rcases hk with rfl | rfl <;> rfl
  have hs : ρ.set i (s.with t) = ρ := by
    have : s.with t = s := by cases s <;> first | rfl | (cases et; rfl)
    rw [this]
    exact set_self e
  have main : ofKid i [] k c = .bor i [k] → eFnL G gl ρ = some (.val (.fr d), ρ) := fun hx => by
    rw [e0, hgl, Option.bind_some, hx]
    show (ρ[i]?.bind _) = _
    rw [e, Option.bind_some, et, Option.bind_some, hget, Option.bind_some]
    show (G (.pin c :: bs.map ofr)).bind _ = _
    obtain ⟨ps, h2, h3⟩ := hg _ (.inr rfl)
    rw [h2, Option.bind_some]
    show (match ps[0]? with
      | some (.pin t') => some (R.val (T.fr d), ρ.set i (s.with (t.put [k] t')))
      | _ => none) = _
    rw [h3]
    show some (R.val (T.fr d), ρ.set i (s.with (t.put [k] c))) = _
    rw [hput, hs]
  cases c with
  | fr c =>
    rw [e0, hgl, Option.bind_some]
    show (G (.own (.fr c) :: bs.map ofr)).map _ = _
    obtain ⟨ps, h2, _⟩ := hg _ (.inl rfl)
    rw [h2]; rfl
  | lst _ => exact main rfl
  | tup _ => exact main rfl
  | dic _ _ => exact main rfl
  | scr _ => exact main rfl
theorem ne_bool (b : Bool) : opNe (.fr (.bool b)) (.fr (.bool b)) = some (.fr (.bool false)) := by
  have e : eqD (.bool b) (.bool b) = some (PyData.eqv (.bool b) (.bool b)) := rfl
  show (eqD (.bool b) (.bool b)).map (fun b => T.fr (.bool (!b))) = _
  rw [e, show PyData.eqv (.bool b) (.bool b) = true by simp [PyData.eqv]]
  rfl
/-- what the law's own comparison takes as the same -/
inductive Mt : Nat → T → PyData → Prop
  | int {f : Nat} {i : Int} : Mt (f + 1) (.fr (.int i)) (.int i)
  | frl {f : Nat} {ds : List PyData} : ds.length ≤ 1000 → (∀ d ∈ ds, Mt f (.fr d) d) → Mt (f + 1) (.fr (.list ds)) (.list ds)
  | frt {f : Nat} {ds : List PyData} : ds.length ≤ 1000 → (∀ d ∈ ds, Mt f (.fr d) d) → Mt (f + 1) (.fr (.tuple ds)) (.tuple ds)
  | lst {f : Nat} {ts : List T} {ds : List PyData} : ds.length ≤ 1000 → ts.length = ds.length → (∀ (k : Nat) (t : T) (d : PyData), ts[k]? = some t → ds[k]? = some d → Mt f t d) → Mt (f + 1) (.lst ts) (.list ds)
  | tup {f : Nat} {ts : List T} {ds : List PyData} : ds.length ≤ 1000 → ts.length = ds.length → (∀ (k : Nat) (t : T) (d : PyData), ts[k]? = some t → ds[k]? = some d → Mt f t d) → Mt (f + 1) (.tup ts) (.tuple ds)
end DL
namespace K71
open PySem PySem.Spec PyProof.Rows L2 DL
theorem same_ok : ∀ (f : Nat) (t : T) (d : PyData), Mt f t d → ∀ s, (s = .own t ∨ s = .pin t) → g__law_same f [s, ow d] = some (.fr (.bool true), [pinOnly s, .non]) := by
  intro f
  induction f with
  | zero => intro t d h; cases h
  | succ f ih =>
    intro t d h s hs
    have harg : argOk s = true := by rcases hs with rfl | rfl <;> rfl
    have hst : s.tree? = some t := by rcases hs with rfl | rfl <;> rfl
    let ρ : MS := [s, ow d, .non]
    have ret : m__law_same (g__law_same f) ρ = some (.rt (.val (.fr (.bool true))), ρ) → g__law_same (f + 1) [s, ow d] = some (.fr (.bool true), [pinOnly s, .non]) := fun hm =>
      runFn_ret (ρ := ρ) ⟨rfl, by show (argOk s && true) = true; rw [harg]; rfl⟩ hm
    -- the things with items
    have items : ∀ (ds : List PyData) (b : Bool), ds.length ≤ 1000 → (d = .list ds ∧ b = true ∨ d = .tuple ds ∧ b = false) → un (opIsi "list") (eVar 0) ρ = some (.val (.fr (.bool b)), ρ) → un (opIsi "tuple") (eVar 0) ρ = some (.val (.fr (.bool (!b))), ρ) → un opLen (eVar 0) ρ = some (.val (.fr (.int (ds.length : Nat))), ρ) →
        (∀ k, (hk : k < ds.length) → eFnL (g__law_same f) (lHere true (subs true opIx (eVar 0) (eVar 2)) (aCons (subs true opIx (eVar 1) (eVar 2)) aNil)) [s, ow d, ow (.int (k : Nat))] = some (.val (.fr (.bool true)), [s, ow d, ow (.int (k : Nat))])) → m__law_same (g__law_same f) ρ = some (.rt (.val (.fr (.bool true))), ρ) := fun ds b hl hd i1 i2 i3 kid => by
      have d1 : un (opIsi "list") (eVar 1) ρ = some (.val (.fr (.bool b)), ρ) := by rcases hd with ⟨rfl, rfl⟩ | ⟨rfl, rfl⟩ <;> rfl
      have d2 : un (opIsi "tuple") (eVar 1) ρ = some (.val (.fr (.bool (!b))), ρ) := by rcases hd with ⟨rfl, rfl⟩ | ⟨rfl, rfl⟩ <;> rfl
      have d3 : un opLen (eVar 1) ρ = some (.val (.fr (.int (ds.length : Nat))), ρ) := by rcases hd with ⟨rfl, rfl⟩ | ⟨rfl, rfl⟩ <;> rfl
      have c1 : cOr (cTru (un (opIsi "list") (eVar 1))) (cTru (un (opIsi "tuple") (eVar 1))) ρ = some (true, ρ) := by
        refine cOr_eq (cTru_eq d1 rfl rfl) ?_
        cases b with
        | true => rfl
        | false => exact cTru_eq d2 rfl rfl
      have c2 : cOr (cOf (bin true opNe (un (opIsi "list") (eVar 0)) (un (opIsi "list") (eVar 1)))) (cOf (bin true opNe (un (opIsi "tuple") (eVar 0)) (un (opIsi "tuple") (eVar 1)))) ρ = some (false, ρ) := by
        refine cOr_eq (cOf_eq (bin_eq i1 d1 rfl rfl rfl (ne_bool b)) rfl) ?_
        rw [if_neg Bool.false_ne_true]
        exact cOf_eq (bin_eq i2 d2 rfl rfl rfl (ne_bool (!b))) rfl
      have hc := lcM_nat (vs := [2]) (m := gNm 2) (c := cYes) (e := eFnL (g__law_same f) (lHere true (subs true opIx (eVar 0) (eVar 2)) (aCons (subs true opIx (eVar 1) (eVar 2)) aNil))) (ρ3 := ρ) (List.range ds.length) (fun _ => true) (fun _ => .bool true)
        (show srcR rng1 (aCons (un opLen (eVar 1)) aNil) ρ = some ((natD (List.range ds.length), none), ρ) from srcR_eq (ds := [.int (ds.length : Nat)]) (aCons_eq d3 rfl rfl) (rng1_nat (by omega))) (by rw [List.length_range, sizeLine_eq]; omega) (fun k hk => by
          have hk := List.mem_range.mp hk
          exact ⟨[s, ow d, ow (.int (k : Nat))], rfl, rfl, fun _ => fz_eq (kid k hk) rfl, rfl⟩) rfl rfl
      have hret : sRet (vAnd (bin true opEq (un opLen (eVar 0)) (un opLen (eVar 1))) (un opAll (lcM (srcR rng1 (aCons (un opLen (eVar 1)) (aNil))) [2] (gNm 2) (cYes) (eFnL (g__law_same f) (lHere true (subs true opIx (eVar 0) (eVar 2)) (aCons (subs true opIx (eVar 1) (eVar 2)) (aNil))))))) ρ = some (.rt (.val (.fr (.bool true))), ρ) := by
        refine sRet_eq (vAnd_eq (bin_eq i3 d3 rfl rfl rfl (eq_int _ _)) rfl ?_)
        rw [decide_eq_true rfl, if_pos rfl]
        exact all_true hc fun _ _ _ => rfl
      have h3 : sIf _ _ sNx ρ = some (.rt (.val (.fr (.bool true))), ρ) := sIf_eq c1 (by rw [if_pos rfl]; exact sSeq_eq (ρ1 := ρ) (sIf_eq (m := sRet (eC (.bool false))) (n := sNx) c2 rfl) hret)
      show (sIf _ _ _ ρ).bind _ = _
      rw [h3]; rfl
    cases h with
    | int =>
      rename_i i
      have e1 : bin true opEq (eVar 0) (eVar 1) ρ = some (.val (.fr (.bool true)), ρ) := by
        have h0 : eVar 0 ρ = some (.val (.fr (.int i)), ρ) := by rcases hs with rfl | rfl <;> rfl
        have := bin_eq (q := true) (gb := eVar 1) h0 rfl rfl rfl rfl (eq_int i i)
        rw [decide_eq_true rfl] at this
        exact this
      refine ret (sSeq_eq (ρ1 := ρ) rfl (sSeq_eq (ρ1 := ρ) rfl (sSeq_eq (ρ1 := ρ) rfl (sRet_eq ?_))))
      have h1 : un (opIsi "int") (eVar 0) ρ = some (.val (.fr (.bool true)), ρ) := by rcases hs with rfl | rfl <;> rfl
      have h2 : vNot (cOf (un (opIsi "bool") (eVar 0))) ρ = some (.val (.fr (.bool true)), ρ) := by rcases hs with rfl | rfl <;> rfl
      exact vAnd_eq h1 rfl (vAnd_eq h2 rfl e1)
    | @frl _ ds hl h =>
      refine ret (items ds true hl (.inl ⟨rfl, rfl⟩) (by rcases hs with rfl | rfl <;> rfl) (by rcases hs with rfl | rfl <;> rfl) (by rcases hs with rfl | rfl <;> rfl) fun k hk => ?_)
      have h0 : eVar 0 [s, ow (.list ds), ow (.int (k : Nat))] = some (.val (.fr (.list ds)), [s, ow (.list ds), ow (.int (k : Nat))]) := by rcases hs with rfl | rfl <;> rfl
      have b0 : subs true opIx (eVar 0) (eVar 2) [s, ow (.list ds), ow (.int (k : Nat))] = some (.val (.fr ds[k]), [s, ow (.list ds), ow (.int (k : Nat))]) := subs_val h0 rfl rfl (opIx_list hk)
      have a0 : aCons (subs true opIx (eVar 1) (eVar 2)) aNil [s, ow (.list ds), ow (.int (k : Nat))] = some ([ds[k]], [s, ow (.list ds), ow (.int (k : Nat))]) := aCons_eq (subs_val rfl rfl rfl (opIx_list hk)) rfl rfl
      have hl2 := lHere_eq (q := true) b0 a0 rfl
      have e0 : ∀ (G : Fn) (gl : DL.M (List PyData × DL.R × List PyData)) (ρ ρ' : MS) (t : T) (bs : List PyData) (z : T × MS), gl ρ = some (([], .val t, bs), ρ') → G (.own t :: bs.map ofr) = some z → eFnL G gl ρ = some (.val z.1, ρ') := fun G gl ρ ρ' t bs z h1 h2 => by
        have e0 : eFnL G gl ρ = (gl ρ).bind fun x => match x.1.2.1 with
          | .val t => (G (x.1.1.map ofr ++ .own t :: x.1.2.2.map ofr)).map fun z => (.val z.1, x.2)
          | .bor i p => x.2[i]?.bind fun s => s.tree?.bind fun t0 => (t0.get p).bind fun t => (G (x.1.1.map ofr ++ .pin t :: x.1.2.2.map ofr)).bind fun z => match z.2[x.1.1.length]? with
            | some (.pin t') => some (.val z.1, x.2.set i (s.with (t0.put p t')))
            | _ => none := rfl
        rw [e0, h1, Option.bind_some]
        show (G (.own t :: bs.map ofr)).map _ = _
        rw [h2]; rfl
      exact e0 _ _ _ _ _ _ _ hl2 (ih _ _ (h _ (List.getElem_mem hk)) _ (.inl rfl))
    | @frt _ ds hl h =>
      refine ret (items ds false hl (.inr ⟨rfl, rfl⟩) (by rcases hs with rfl | rfl <;> rfl) (by rcases hs with rfl | rfl <;> rfl) (by rcases hs with rfl | rfl <;> rfl) fun k hk => ?_)
      have h0 : eVar 0 [s, ow (.tuple ds), ow (.int (k : Nat))] = some (.val (.fr (.tuple ds)), [s, ow (.tuple ds), ow (.int (k : Nat))]) := by rcases hs with rfl | rfl <;> rfl
      have b0 : subs true opIx (eVar 0) (eVar 2) [s, ow (.tuple ds), ow (.int (k : Nat))] = some (.val (.fr ds[k]), [s, ow (.tuple ds), ow (.int (k : Nat))]) := subs_val h0 rfl rfl (opIx_tup hk)
      have a0 : aCons (subs true opIx (eVar 1) (eVar 2)) aNil [s, ow (.tuple ds), ow (.int (k : Nat))] = some ([ds[k]], [s, ow (.tuple ds), ow (.int (k : Nat))]) := aCons_eq (subs_val rfl rfl rfl (opIx_tup hk)) rfl rfl
      have hl2 := lHere_eq (q := true) b0 a0 rfl
      have e0 : ∀ (G : Fn) (gl : DL.M (List PyData × DL.R × List PyData)) (ρ ρ' : MS) (t : T) (bs : List PyData) (z : T × MS), gl ρ = some (([], .val t, bs), ρ') → G (.own t :: bs.map ofr) = some z → eFnL G gl ρ = some (.val z.1, ρ') := fun G gl ρ ρ' t bs z h1 h2 => by
        have e0 : eFnL G gl ρ = (gl ρ).bind fun x => match x.1.2.1 with
          | .val t => (G (x.1.1.map ofr ++ .own t :: x.1.2.2.map ofr)).map fun z => (.val z.1, x.2)
          | .bor i p => x.2[i]?.bind fun s => s.tree?.bind fun t0 => (t0.get p).bind fun t => (G (x.1.1.map ofr ++ .pin t :: x.1.2.2.map ofr)).bind fun z => match z.2[x.1.1.length]? with
            | some (.pin t') => some (.val z.1, x.2.set i (s.with (t0.put p t')))
            | _ => none := rfl
        rw [e0, h1, Option.bind_some]
        show (G (.own t :: bs.map ofr)).map _ = _
        rw [h2]; rfl
      exact e0 _ _ _ _ _ _ _ hl2 (ih _ _ (h _ (List.getElem_mem hk)) _ (.inl rfl))
    | @lst _ ts ds hl hlen h =>
      refine ret (items ds true hl (.inl ⟨rfl, rfl⟩) (by rcases hs with rfl | rfl <;> rfl) (by rcases hs with rfl | rfl <;> rfl) (by rw [← hlen]; rcases hs with rfl | rfl <;> rfl) fun k hk => ?_)
      have hkt : k < ts.length := by omega
      have b0 := subs_kid (q := true) (f := opIx) (gb := eVar 2) (ρ := [s, ow (.list ds), ow (.int (k : Nat))]) (i := 0) (k := k) rfl hst (.inl rfl) rfl rfl hkt
      have a0 : aCons (subs true opIx (eVar 1) (eVar 2)) aNil [s, ow (.list ds), ow (.int (k : Nat))] = some ([ds[k]], [s, ow (.list ds), ow (.int (k : Nat))]) := aCons_eq (subs_val rfl rfl rfl (opIx_list hk)) rfl rfl
      have hl2 := lHere_eq (q := true) b0 a0 (by cases ts[k] <;> rfl)
      refine eFnL_kid (i := 0) (k := k) (s := s) (c := ts[k]) rfl hst (.inl rfl) (List.getElem?_eq_getElem hkt) hl2 fun s' hs' => ⟨_, ih _ _ (h k _ _ (List.getElem?_eq_getElem hkt) (List.getElem?_eq_getElem hk)) s' hs', rfl⟩
    | @tup _ ts ds hl hlen h =>
      refine ret (items ds false hl (.inr ⟨rfl, rfl⟩) (by rcases hs with rfl | rfl <;> rfl) (by rcases hs with rfl | rfl <;> rfl) (by rw [← hlen]; rcases hs with rfl | rfl <;> rfl) fun k hk => ?_)
      have hkt : k < ts.length := by omega
      have b0 := subs_kid (q := true) (f := opIx) (gb := eVar 2) (ρ := [s, ow (.tuple ds), ow (.int (k : Nat))]) (i := 0) (k := k) rfl hst (.inr rfl) rfl rfl hkt
      have a0 : aCons (subs true opIx (eVar 1) (eVar 2)) aNil [s, ow (.tuple ds), ow (.int (k : Nat))] = some ([ds[k]], [s, ow (.tuple ds), ow (.int (k : Nat))]) := aCons_eq (subs_val rfl rfl rfl (opIx_tup hk)) rfl rfl
      have hl2 := lHere_eq (q := true) b0 a0 (by cases ts[k] <;> rfl)
      refine eFnL_kid (i := 0) (k := k) (s := s) (c := ts[k]) rfl hst (.inr rfl) (List.getElem?_eq_getElem hkt) hl2 fun s' hs' => ⟨_, ih _ _ (h k _ _ (List.getElem?_eq_getElem hkt) (List.getElem?_eq_getElem hk)) s' hs', rfl⟩
end K71

namespace K71
open PySem PySem.Spec PyProof.Rows L2 DL
variable {rs : List Row} {ins : Int} {os sh : List PyData}
def rowI : Row → List PyData
  | .new s => [.str "new", .int s]
  | .read s b => [.str "read", .int s, .int b]
  | .fix p s ks => [.str "fix", .str p, .int s, inL ks]
  | .turn k ss => [.str "turn", .str k, inL ss]
theorem enc_items (r : Row) : r.enc = .tuple (rowI r) := by cases r <;> rfl
theorem listOf_fz {g : DL.M DL.R} {ρ ρ1 : MS} {x : DL.R} {ds : List PyData} (h : g ρ = some (x, ρ1)) (hl : look ρ1 x = some (.fr (.list ds))) : fz (un opListOf g) ρ = some (.list ds, ρ1) := by
  refine fz_eq (un_eq (r := .lst (ds.map T.fr)) h hl rfl) ?_
  show (T.erase _).map _ = _
  rw [erase_lst]; rfl
theorem copy_ok (G : Good rs) : f__law_copy [ow (coreD ins rs (.list os) (.list sh))] = some (.fr (coreD ins rs (.list os) (.list sh)), [.non]) := by
  let c0 := coreD ins rs (.list os) (.list sh)
  let n := rs.length
  have hn : n ≤ 60 := G.1
  let acc : Nat → Sl := fun i => .own (.lst (((rs.take i).map Row.enc).map T.fr))
  let S : Nat → MS → Prop := fun i ρ => ∃ s2 s3, Fre s2 ∧ Fr4 s3 ∧ ρ = [ow c0, acc i, s2, s3]
  let ρ0 : MS := [ow c0, .own (.lst []), .non, .non]
  have hsrc : srcV T.asList (subs true opIx (eVar 0) (eC (.int 1))) ρ0 = some ((rs.map Row.enc, none), ρ0) := rfl
  obtain ⟨ρ', ρ3, ⟨s2, s3, f2, f3, e⟩, hu, hf⟩ := sFor_inv (m := gNm 2) (n := sSeq (sSet 3 (un opListOf (eVar 2)))
  (sSeq (sIf (cOf (bin true opEq (subs true opIx (eVar 2) (eC (.int 0))) (eC (.str "turn")))) (sPut true putAny (un opListOf (subs true opIx (eVar 2) (eC (.int 2)))) (eVar 3) (eC (.int 2))) (sNx))
  (sSeq (sIf (cOf (bin true opEq (subs true opIx (eVar 2) (eC (.int 0))) (eC (.str "fix")))) (sPut true putAny (un opListOf (subs true opIx (eVar 2) (eC (.int 3)))) (eVar 3) (eC (.int 3))) (sNx))
  (sExpr (mutM "list" true lAppend (eVar 1) (bConsF (un opTupOf (eVar 3)) (bNil)))))))
    hsrc S ⟨.non, .non, .inl rfl, .inl rfl, rfl⟩ (fun i ρ hi hS => by
      obtain ⟨s2, s3, f2, f3, rfl⟩ := hS
      have hi' : i < n := by rw [List.length_map] at hi; exact hi
      let r := rs[i]
      have el : (rs.map Row.enc)[i]'hi = r.enc := List.getElem_map _
      let ρ1 : MS := [ow c0, acc i, ow r.enc, s3]
      let ρ2 : MS := [ow c0, acc i, ow r.enc, .own (.lst ((rowI r).map T.fr))]
      have t1 : sSet 3 (un opListOf (eVar 2)) ρ1 = some (.nx, ρ2) := by
        have h : un opListOf (eVar 2) ρ1 = some (.val (.lst ((rowI r).map T.fr)), ρ1) := by
          refine un_eq (x := .val (.fr r.enc)) (t := .fr r.enc) rfl rfl ?_
          rw [enc_items]; rfl
        exact sSet_val (i := 3) (ρ1 := ρ1) h (by rcases f3 with rfl | ⟨d, rfl⟩ <;> rfl)
      have t2 : sIf (cOf (bin true opEq (subs true opIx (eVar 2) (eC (.int 0))) (eC (.str "turn")))) (sPut true putAny (un opListOf (subs true opIx (eVar 2) (eC (.int 2)))) (eVar 3) (eC (.int 2))) (sNx) ρ2 = some (.nx, ρ2) := by
        show sIf _ _ _ [ow c0, acc i, ow r.enc, .own (.lst ((rowI r).map T.fr))] = some (.nx, [ow c0, acc i, ow r.enc, .own (.lst ((rowI r).map T.fr))])
        cases r with
        | new s => rfl
        | read s b => rfl
        | fix p s ks => rfl
        | turn k ss =>
          refine sIf_eq (b := true) rfl ?_
          rw [if_pos rfl]
          let X : MS := [ow c0, acc i, ow (Row.turn k ss).enc, .own (.lst ((rowI (Row.turn k ss)).map T.fr))]
          exact put_own (ρ := X) (ρ1 := X) (ρ2 := X) (ρ3 := X) (i := 3) (k := 2) (s := .own (.lst ((rowI (Row.turn k ss)).map T.fr))) (ts := (rowI (Row.turn k ss)).map T.fr) (listOf_fz rfl rfl) rfl rfl rfl rfl rfl (show 2 < 3 by omega)
      have t3 : sIf (cOf (bin true opEq (subs true opIx (eVar 2) (eC (.int 0))) (eC (.str "fix")))) (sPut true putAny (un opListOf (subs true opIx (eVar 2) (eC (.int 3)))) (eVar 3) (eC (.int 3))) (sNx) ρ2 = some (.nx, ρ2) := by
        show sIf _ _ _ [ow c0, acc i, ow r.enc, .own (.lst ((rowI r).map T.fr))] = some (.nx, [ow c0, acc i, ow r.enc, .own (.lst ((rowI r).map T.fr))])
        cases r with
        | new s => rfl
        | read s b => rfl
        | turn k ss => rfl
        | fix p s ks =>
          refine sIf_eq (b := true) rfl ?_
          rw [if_pos rfl]
          let X : MS := [ow c0, acc i, ow (Row.fix p s ks).enc, .own (.lst ((rowI (Row.fix p s ks)).map T.fr))]
          exact put_own (ρ := X) (ρ1 := X) (ρ2 := X) (ρ3 := X) (i := 3) (k := 3) (s := .own (.lst ((rowI (Row.fix p s ks)).map T.fr))) (ts := (rowI (Row.fix p s ks)).map T.fr) (listOf_fz rfl rfl) rfl rfl rfl rfl rfl (show 3 < 4 by omega)
      have htup : un opTupOf (eVar 3) ρ2 = some (.val (.fr r.enc), ρ2) := by
        refine un_eq (x := .bor 3 []) (t := .lst ((rowI r).map T.fr)) rfl rfl ?_
        show (match T.asList (.lst ((rowI r).map T.fr)) with | some ds => some (T.fr (.tuple ds)) | none => none) = _
        rw [view_list, enc_items]
      have ha := append_eq (q := true) (g := eVar 1) (ρ := ρ2) (t0 := .lst (((rs.take i).map Row.enc).map T.fr)) (i := 1) (s := acc i) rfl rfl rfl (bConsF_one htup) rfl rfl (by rw [List.length_map, List.length_map, List.length_take]; exact small60' (by omega))
      have e4 : ((rs.take i).map Row.enc).map T.fr ++ [T.fr r.enc] = ((rs.take (i + 1)).map Row.enc).map T.fr := by
        rw [List.take_add_one, List.getElem?_eq_getElem hi', List.map_append, List.map_append]; rfl
      rw [e4] at ha
      refine ⟨ρ1, _, ?_, .inl (sSeq_eq t1 (sSeq_eq t2 (sSeq_eq t3 (sExpr_eq ha)))), _, _, .inr ⟨_, rfl⟩, .inr ⟨_, rfl⟩, rfl⟩
      rw [el]
      rcases f2 with rfl | ⟨d, rfl⟩ <;> rfl) (fun ρ' _ => ⟨ρ', rfl⟩)
  subst e
  rw [List.length_map] at hu
  have hu := Option.some.inj hu
  subst hu
  have hfull : acc n = .own (.lst ((rs.map Row.enc).map T.fr)) := by show Sl.own (.lst (((rs.take n).map Row.enc).map T.fr)) = _; rw [List.take_length]
  rw [hfull] at hf
  let ρ9 : MS := [ow c0, .own (.lst ((rs.map Row.enc).map T.fr)), s2, s3]
  let ρ8 : MS := [ow c0, ow (rowsD rs), s2, s3]
  have hfr : frz (.bor 1 []) ρ9 = some (rowsD rs, ρ8) := by
    show (T.erase (.lst ((rs.map Row.enc).map T.fr))).map _ = _
    rw [erase_lst]; rfl
  have al : ∀ (k : Nat) (ds : List PyData), opIx (.fr c0) (.fr (.int (k : Int))) = some (.fr (.list ds)) → fz (un opListOf (subs true opIx (eVar 0) (eC (.int (k : Nat))))) ρ8 = some (.list ds, ρ8) := fun k ds h => listOf_fz (subs_val (t := .fr c0) rfl rfl rfl h) rfl
  have acons : ∀ (g : DL.M DL.R) (gs : DL.M (List PyData)) (ρ ρ1 ρ2 : MS) (d : PyData) (ds : List PyData), fz g ρ = some (d, ρ1) → gs ρ1 = some (ds, ρ2) → aCons g gs ρ = some (d :: ds, ρ2) := fun g gs ρ ρ1 ρ2 d ds h1 h2 => by
    have e0 : aCons g gs ρ = (fz g ρ).bind fun x => (gs x.2).map fun y => (x.1 :: y.1, y.2) := rfl
    rw [e0, h1, Option.bind_some]
    show (gs ρ1).map _ = _
    rw [h2]; rfl
  have h9 : aCons (subs true opIx (eVar 0) (eC (.int 0))) (aCons (eVar 1) (aCons (un opListOf (subs true opIx (eVar 0) (eC (.int 2)))) (aCons (un opListOf (subs true opIx (eVar 0) (eC (.int 3)))) (aNil)))) ρ9 = some ([.int ins, rowsD rs, .list os, .list sh], ρ8) :=
    acons _ _ _ ρ9 _ _ _ rfl (acons _ _ _ ρ8 _ _ _ (fz_eq rfl hfr) (acons _ _ _ ρ8 _ _ _ (al 2 os rfl) (acons _ _ _ ρ8 _ _ _ (al 3 sh rfl) rfl)))
  have h10 : sRet (eTup (aCons (subs true opIx (eVar 0) (eC (.int 0))) (aCons (eVar 1) (aCons (un opListOf (subs true opIx (eVar 0) (eC (.int 2)))) (aCons (un opListOf (subs true opIx (eVar 0) (eC (.int 3)))) (aNil)))))) ρ9 = some (.rt (.val (.fr c0)), ρ8) := by
    refine sRet_eq ?_
    show ((aCons _ _ ρ9).bind _) = _
    rw [h9]
    rfl
  exact runFn_ret (ρ := ρ8) ⟨rfl, rfl⟩ (sSeq_eq (ρ1 := ρ0) rfl (sSeq_eq hf h10))
end K71

namespace DL
open PySem PySem.Spec PyProof.Rows L2
theorem ne_fr {d : PyData} (h : SeqAt.shaped d = true) (hs : scalD d d = false) : opNe (.fr d) (.fr d) = some (.fr (.bool false)) := by
  show (eqD d d).map (fun b => T.fr (.bool (!b))) = _
  unfold eqD
  rw [hs, if_neg Bool.false_ne_true, h, if_pos (show (true && true) = true from rfl), SeqAt.eqv_refl _ (SeqAt.canLay_of_shaped h)]
  rfl
/-- a call with a borrowed part lent, that comes back as it was -/
theorem eFnL_bor {G : Fn} {gl : M (List PyData × R × List PyData)} {as bs : List PyData} {i : Nat} {p : Path} {ρ ρ' : MS} {s : Sl} {t0 t : T} {d : PyData} {ps : MS} (hgl : gl ρ = some ((as, .bor i p, bs), ρ')) (e : ρ'[i]? = some s) (et : s.tree? = some t0) (hg : t0.get p = some t) (hp : t0.put p t = t0)
    (hG : G (as.map ofr ++ .pin t :: bs.map ofr) = some (.fr d, ps)) (hq : ps[as.length]? = some (.pin t)) : eFnL G gl ρ = some (.val (.fr d), ρ') := by
  have e0 : eFnL G gl ρ = (gl ρ).bind fun x => match x.1.2.1 with
    | .val t => (G (x.1.1.map ofr ++ .own t :: x.1.2.2.map ofr)).map fun z => (.val z.1, x.2)
    | .bor i p => x.2[i]?.bind fun s => s.tree?.bind fun t0 => (t0.get p).bind fun t => (G (x.1.1.map ofr ++ .pin t :: x.1.2.2.map ofr)).bind fun z => match z.2[x.1.1.length]? with
      | some (.pin t') => some (.val z.1, x.2.set i (s.with (t0.put p t')))
      | _ => none := rfl
  rw [e0, hgl, Option.bind_some]
  show (ρ'[i]?.bind _) = _
  rw [e, Option.bind_some, et, Option.bind_some, hg, Option.bind_some, hG, Option.bind_some]
  show (match ps[as.length]? with
    | some (.pin t') => some (R.val (T.fr d), ρ'.set i (s.with (t0.put p t')))
    | _ => none) = _
  rw [hq]
  show some (R.val (T.fr d), ρ'.set i (s.with (t0.put p t))) = _
  have : s.with t0 = s := by cases s <;> first | rfl | (cases et; rfl)
  rw [hp, this, set_self e]
theorem lHere_gen {q : Bool} {g : M R} {gs : M (List PyData)} {ρ ρ1 ρ2 : MS} {x : R} {ds : List PyData} (h1 : g ρ = some (x, ρ1)) (h2 : gs ρ1 = some (ds, ρ2)) (w : x.waits q = true) : lHere q g gs ρ = some (([], x, ds), ρ2) := by
  have e0 : lHere q g gs ρ = (g ρ).bind fun x => (gs x.2).bind fun y => if x.1.waits q = true then some (([], x.1, y.1), y.2) else none := rfl
  rw [e0, h1, Option.bind_some]
  show (gs ρ1).bind _ = _
  rw [h2]
  show (if x.waits q = true then _ else _) = _
  rw [if_pos w]
theorem append_path {g : M R} {gs : M (List T)} {q : Bool} {ρ ρ1 ρ2 : MS} {i : Nat} {p : Path} {s : Sl} {ts : List T} {t t0 tr : T} (h1 : g ρ = some (.bor i p, ρ1)) (l0 : look ρ1 (.bor i p) = some t0) (ty : tyT "list" t0 = true) (h2 : gs ρ1 = some ([t], ρ2)) (hw : q = true) (hs : ρ2[i]? = some s) (ht : s.tree? = some tr) (hg : tr.get p = some (.lst ts)) (hl : ts.length < sizeLine) :
    mutM "list" q lAppend g gs ρ = some (.val (.fr .none), ρ2.set i (s.with (tr.put p (.lst (ts ++ [t]))))) := by
  have e0 : mutM "list" q lAppend g gs ρ = (g ρ).bind fun x => (look x.2 x.1).bind fun t0 => if tyT "list" t0 = true then
    (gs x.2).bind fun y => match x.1 with
      | .bor i p => if (R.bor i p).waits q = true then y.2[i]?.bind fun s => s.tree?.bind fun t => (t.get p).bind fun u => (lAppend u y.1).map fun r => (.val r.2, y.2.set i (s.with (t.put p r.1))) else none
      | .val _ => none else none := rfl
  rw [e0, h1, Option.bind_some]
  show (look ρ1 (.bor i p)).bind _ = _
  rw [l0, Option.bind_some, if_pos ty]
  show (gs ρ1).bind _ = _
  rw [h2, Option.bind_some]
  show (if (R.bor i p).waits q = true then ρ2[i]?.bind fun s => s.tree?.bind fun t' => (t'.get p).bind fun u => (lAppend u [t]).map fun r => (R.val r.2, ρ2.set i (s.with (t'.put p r.1))) else none) = _
  rw [if_pos (show (R.bor i p).waits q = true by show (q || p.isEmpty) = true; rw [hw]; rfl), hs, Option.bind_some, ht, Option.bind_some, hg, Option.bind_some]
  show (if ts.length < sizeLine then some (T.lst (ts ++ [t]), T.fr .none) else none).map _ = _
  rw [if_pos hl]
  rfl
end DL
namespace K71
open PySem PySem.Spec PyProof.Rows L2 DL
variable {rs : List Row} {ins : Int} {os sh : List PyData}
theorem maxOf_snoc (xs : List Nat) : ∀ a : Nat, maxOf (a : Int) ((xs.map fun (k : Nat) => (k : Int)) ++ [-1]) = ((max a (xs.foldr max 0) : Nat) : Int) := by
  induction xs with
  | nil => intro a; show max (a : Int) (-1) = _; simp; omega
  | cons x xs ih =>
    intro a
    show maxOf (max (a : Int) (x : Int)) ((xs.map fun (k : Nat) => (k : Int)) ++ [-1]) = _
    have : max (a : Int) (x : Int) = ((max a x : Nat) : Int) := by omega
    rw [this, ih]
    show _ = ((max a (max x (xs.foldr max 0)) : Nat) : Int)
    congr 1
    omega
theorem deep_levs2 (R : Nat → Nat → Bool) (n : Nat) : ∃ m : Int, opMax (.lst ((natD (levs R n) ++ [PyData.int (-1)]).map T.fr)) = some (.fr (.int m)) ∧ opAdd (.fr (.int m)) (.fr (.int 1)) = some (.fr (.int (deep R n : Nat))) := by
  have h1 := deep_levs R n
  rw [mxD_nat] at h1
  have e : natD (levs R n) ++ [PyData.int (-1)] = (((levs R n).map fun (k : Nat) => (k : Int)) ++ [-1]).map PyData.int := by rw [natD_int, List.map_append]; rfl
  unfold opMax
  rw [view_list, Option.bind_some, e, DL.ints_map, Option.bind_some]
  cases hx : levs R n with
  | nil =>
    rw [hx] at h1
    exact ⟨-1, rfl, h1⟩
  | cons x xs =>
    rw [hx] at h1
    refine ⟨_, ?_, h1⟩
    show some (T.fr (.int (maxOf (x : Int) ((xs.map fun (k : Nat) => (k : Int)) ++ [-1])))) = _
    rw [maxOf_snoc]; rfl
theorem mt_nat (f : Nat) {xs : List Nat} (h : xs.length ≤ 1000) : Mt (f + 2) (.fr (.list (natD xs))) (.list (natD xs)) := by
  refine .frl (by rw [natD_len]; exact h) fun d hd => ?_
  obtain ⟨k, _, rfl⟩ := List.mem_map.mp hd
  exact .int
theorem mt_nats (f : Nat) {ls : List (List Nat)} (h : ls.length ≤ 1000) (hx : ∀ xs ∈ ls, xs.length ≤ 1000) : Mt (f + 3) (.lst ((LD ls).map T.fr)) (.list (LD ls)) := by
  refine .lst (by unfold LD; rw [List.length_map]; exact h) (List.length_map _) fun k t d h1 h2 => ?_
  rw [List.getElem?_map, h2] at h1
  cases h1
  obtain ⟨xs, hm, rfl⟩ := List.mem_map.mp (List.mem_of_getElem? h2)
  exact mt_nat f (hx xs hm)
theorem mt_depth (f D : Nat) {F : List Nat} (h : F.length ≤ 1000) : Mt (f + 3) (.tup [.fr (.int (D : Nat)), .lst ((natD F).map T.fr)]) (.tuple [.int (D : Nat), .list (natD F)]) := by
  refine .tup (by simp) rfl fun k t d h1 h2 => ?_
  cases k with
  | zero => cases h1; cases h2; exact .int
  | succ k =>
    cases k with
    | zero =>
      cases h1; cases h2
      refine .lst (by rw [natD_len]; exact h) (List.length_map _) fun k t d h1 h2 => ?_
      rw [List.getElem?_map, h2] at h1
      cases h1
      obtain ⟨j, _, rfl⟩ := List.mem_map.mp (List.mem_of_getElem? h2)
      exact .int
    | succ k => simp at h1
/-- the due steps, own or frozen -/
def DS (s : Sl) (ds : List PyData) : Prop := s = .own (.lst (ds.map T.fr)) ∨ s = .own (.fr (.list ds))
theorem DS.frz {s : Sl} {ds : List PyData} (h : DS s ds) {ρ : MS} {i : Nat} (e : ρ[i]? = some s) : fz (eVar i) ρ = some (.list ds, ρ.set i (.own (.fr (.list ds)))) := by
  have e1 : fz (eVar i) ρ = (eVar i ρ).bind fun x => DL.frz x.1 x.2 := rfl
  rcases h with rfl | rfl
  · have h1 : eVar i ρ = some (.bor i [], ρ) := by
      show (ρ[i]?.bind Sl.tree?).map _ = _
      rw [e]; rfl
    rw [e1, h1, Option.bind_some]
    show (ρ[i]?.bind fun s => s.tree?.bind fun t => (t.get []).bind fun u => u.erase.map fun d => (d, ρ.set i (s.with (t.put [] (.fr d))))) = _
    rw [e, Option.bind_some]
    show (T.erase (.lst (ds.map T.fr))).map _ = _
    rw [erase_lst]; rfl
  · have h1 : eVar i ρ = some (.val (.fr (.list ds)), ρ) := by
      show (ρ[i]?.bind Sl.tree?).map _ = _
      rw [e]; rfl
    rw [e1, h1, Option.bind_some, set_self e]
    rfl
theorem aCons_fz {g : DL.M DL.R} {gs : DL.M (List PyData)} {ρ ρ1 ρ2 : MS} {d : PyData} {ds : List PyData} (h1 : fz g ρ = some (d, ρ1)) (h2 : gs ρ1 = some (ds, ρ2)) : aCons g gs ρ = some (d :: ds, ρ2) := by
  have e0 : aCons g gs ρ = (fz g ρ).bind fun x => (gs x.2).map fun y => (x.1 :: y.1, y.2) := rfl
  rw [e0, h1, Option.bind_some]
  show (gs ρ1).map _ = _
  rw [h2]; rfl
end K71

namespace DL
open PySem PySem.Spec PyProof.Rows L2
theorem opI_ii {C : Int → Int → Bool} {p : Int → Int → Int} {i j : Int} (h : C i j = true) : opI (iI C p) (.fr (.int i)) (.fr (.int j)) = some (.fr (.int (p i j))) := by
  show ((iI C p i j).map T.fr) = _
  unfold iI
  rw [if_pos h]; rfl
theorem mod_int {i j : Int} (h : j ≠ 0) : opMod (.fr (.int i)) (.fr (.int j)) = some (.fr (.int (i.fmod j))) := opI_ii (decide_eq_true h)
theorem fdiv_int {i j : Int} (h : j ≠ 0) (h2 : j.natAbs < 1073741824) : opFdiv (.fr (.int i)) (.fr (.int j)) = some (.fr (.int (i.fdiv j))) := opI_ii (by rw [decide_eq_true h, decide_eq_true h2]; rfl)
theorem mul_int {i j : Int} (h : -(2 ^ 64) < j ∧ j < 2 ^ 64) : opMul (.fr (.int i)) (.fr (.int j)) = some (.fr (.int (i * j))) := by
  show (if mulOk i j then some (T.fr (.int (i * j))) else none) = _
  rw [if_pos]
  unfold mulOk
  rw [decide_eq_true h.1, decide_eq_true h.2]
  simp
theorem add_int (i j : Int) : opAdd (.fr (.int i)) (.fr (.int j)) = some (.fr (.int (i + j))) := rfl
theorem gt_int (i j : Int) : opGt (.fr (.int i)) (.fr (.int j)) = some (.fr (.bool (decide (j < i)))) := rfl
theorem aug_own {qb qe : Bool} {f : T → T → Option T} {ga gb ge : M R} {ρ : MS} {i k : Nat} {s : Sl} {ts : List T} {d c : PyData} {w : T} {z : R} (h1 : ga ρ = some (.bor i [], ρ)) (h2 : gb ρ = some (.val (.fr (.int (k : Nat))), ρ)) (h3 : ge ρ = some (z, ρ)) (lz : look ρ z = some w)
    (e : ρ[i]? = some s) (et : s.tree? = some (.lst ts)) (hk : ts[k]? = some (.fr d)) (hf : f (.fr d) w = some (.fr c)) : sAugS qb qe f ga gb ge ρ = some (.nx, ρ.set i (s.with (.lst (ts.set k (.fr c))))) := by
  have e0 : sAugS qb qe f ga gb ge ρ = (ga ρ).bind fun x => (gb x.2).bind fun y => (look y.2 x.1).bind fun t => (look y.2 y.1).bind fun u => (itemL t u).bind fun d => (ge y.2).bind fun z =>
    match x.1 with
    | .bor i p => if (R.bor i p).waits qb && ((R.bor i p).waits qe && y.1.waits qe) then (look z.2 z.1).bind fun w => (f (.fr d) w).bind fun r => match r with
      | .fr c => (look z.2 y.1).bind fun u => z.2[i]?.bind fun s => s.tree?.bind fun t0 => (t0.get p).bind fun t => (putL t u c).map fun t' => (.nx, z.2.set i (s.with (t0.put p t')))
      | _ => none else none
    | .val _ => none := rfl
  have hlt : k < ts.length := (List.getElem?_eq_some_iff.mp hk).1
  have l1 : look ρ (.bor i []) = some (.lst ts) := by
    show (ρ[i]?.bind Sl.tree?).bind _ = _
    rw [e, Option.bind_some, et]; rfl
  have hit : itemL (.lst ts) (.fr (.int (k : Nat))) = some d := by
    show ((some (k : Int)).bind fun i => (ixN ts.length i).bind fun j => match ts[j]? with
      | some (.fr d) => some d
      | _ => none) = _
    rw [Option.bind_some, ixN_nat hlt, Option.bind_some, hk]
  have hpl : putL (.lst ts) (.fr (.int (k : Nat))) c = some (.lst (ts.set k (.fr c))) := by
    show ((some (k : Int)).bind fun i => (ixN ts.length i).map fun j => T.lst (ts.set j (.fr c))) = _
    rw [Option.bind_some, ixN_nat hlt]; rfl
  rw [e0, h1, Option.bind_some]
  show (gb ρ).bind _ = _
  rw [h2, Option.bind_some]
  show (look ρ (.bor i [])).bind _ = _
  rw [l1, Option.bind_some]
  show (some (T.fr (.int (k : Nat)))).bind _ = _
  rw [Option.bind_some, hit, Option.bind_some]
  show (ge ρ).bind _ = _
  rw [h3, Option.bind_some]
  show (if ((R.bor i []).waits qb && ((R.bor i []).waits qe && true)) = true then _ else _) = _
  rw [waits0, waits0, if_pos (show (true && (true && true)) = true from rfl)]
  show (look ρ z).bind _ = _
  rw [lz, Option.bind_some, hf, Option.bind_some]
  show (some (T.fr (.int (k : Nat)))).bind _ = _
  rw [Option.bind_some, e, Option.bind_some, et, Option.bind_some]
  show (some (T.lst ts)).bind _ = _
  rw [Option.bind_some, hpl]
  rfl
end DL
namespace K71
open PySem PySem.Spec PyProof.Rows L2 DL
structure Feed where
  cells : List Int
  pos : Int
  big : Int
  seed : Int
def Feed.tree (f : Feed) : T := .lst [.fr (.list (f.cells.map .int)), .fr (.int f.pos), .fr (.int f.big), .fr (.int f.seed)]
def Feed.ok (f : Feed) : Prop := 0 ≤ f.pos ∧ 0 ≤ f.big ∧ 0 ≤ f.seed ∧ f.seed < 2147483648
theorem fmod_bd {i j : Int} (h : 0 < j) : 0 ≤ i.fmod j ∧ i.fmod j < j := ⟨Int.fmod_nonneg_of_pos i h, Int.fmod_lt_of_pos i h⟩
theorem fdiv_nn {i j : Int} (hi : 0 ≤ i) (h : 0 < j) : 0 ≤ i.fdiv j := Int.fdiv_nonneg hi (Int.le_of_lt h)
/-- the first part: a cell is taken in, or none -/
theorem draw1 (f : Feed) (hf : f.ok) (many : Int) : ∃ (f' : Feed) (s3 : Sl), f'.ok ∧ Fre s3 ∧ sIf (cAnd (cOf (bin true opEq (subs true opIx (eVar 0) (eC (.int 2))) (eC (.int 0)))) (cOf (bin true opLt (subs true opIx (eVar 0) (eC (.int 1))) (un opLen (subs true opIx (eVar 0) (eC (.int 0))))))) (sSeq (sSet 3 (un opAbs (un opInt (subs true opIx (subs true opIx (eVar 0) (eC (.int 0))) (subs true opIx (eVar 0) (eC (.int 1)))))))
  (sSeq (sAugS true true opAddI (eVar 0) (eC (.int 1)) (eC (.int 1)))
  (sIf (cOf (bin true opGe (eVar 3) (bin true opPow (eC (.int 10)) (eC (.int 18))))) (sPut true putAny (eVar 3) (eVar 0) (eC (.int 2))) (sPut true putAny (bin true opMod (un opInt (bin true opAdd (bin true opAdd (bin true opMul (subs true opIx (eVar 0) (eC (.int 3))) (eC (.int 48271))) (bin true opMul (eVar 3) (eC (.int 69621)))) (subs true opIx (eVar 0) (eC (.int 1))))) (eC (.int 2147483647))) (eVar 0) (eC (.int 3)))))) (sNx)
    [.pin f.tree, ow (.int many), .non, .non, .non] = some (.nx, [.pin f'.tree, ow (.int many), .non, s3, .non]) := by
  obtain ⟨h1, h2, h3, h4⟩ := hf
  let ρ : MS := [.pin f.tree, ow (.int many), .non, .non, .non]
  have g0 : ∀ (f : Feed) (s1 s2 s3 s4 : Sl), subs true opIx (eVar 0) (eC (.int 0)) [.pin f.tree, s1, s2, s3, s4] = some (.val (.fr (.list (f.cells.map .int))), [.pin f.tree, s1, s2, s3, s4]) := fun _ _ _ _ _ => rfl
  have g1 : ∀ (f : Feed) (s1 s2 s3 s4 : Sl), subs true opIx (eVar 0) (eC (.int 1)) [.pin f.tree, s1, s2, s3, s4] = some (.val (.fr (.int f.pos)), [.pin f.tree, s1, s2, s3, s4]) := fun _ _ _ _ _ => rfl
  have g2 : ∀ (f : Feed) (s1 s2 s3 s4 : Sl), subs true opIx (eVar 0) (eC (.int 2)) [.pin f.tree, s1, s2, s3, s4] = some (.val (.fr (.int f.big)), [.pin f.tree, s1, s2, s3, s4]) := fun _ _ _ _ _ => rfl
  have g3 : ∀ (f : Feed) (s1 s2 s3 s4 : Sl), subs true opIx (eVar 0) (eC (.int 3)) [.pin f.tree, s1, s2, s3, s4] = some (.val (.fr (.int f.seed)), [.pin f.tree, s1, s2, s3, s4]) := fun _ _ _ _ _ => rfl
  have gl : un opLen (subs true opIx (eVar 0) (eC (.int 0))) ρ = some (.val (.fr (.int ((f.cells.length : Nat) : Int))), ρ) := by
    refine un_eq (g0 f _ _ _ _) rfl ?_
    show some (T.fr (.int (((f.cells.map PyData.int).length : Nat) : Int))) = _
    rw [List.length_map]
  have c1 : cAnd (cOf (bin true opEq (subs true opIx (eVar 0) (eC (.int 2))) (eC (.int 0)))) (cOf (bin true opLt (subs true opIx (eVar 0) (eC (.int 1))) (un opLen (subs true opIx (eVar 0) (eC (.int 0)))))) ρ = some (decide (f.big = 0) && decide (f.pos < ((f.cells.length : Nat) : Int)), ρ) := by
    refine cAnd_eq (cOf_eq (bin_eq (g2 f _ _ _ _) rfl rfl rfl rfl (eq_int _ _)) rfl) ?_
    cases decide (f.big = 0) with
    | true => exact cOf_eq (bin_eq (g1 f _ _ _ _) gl rfl rfl rfl (DL.lt_int _ _)) rfl
    | false => rfl
  cases hv : decide (f.big = 0) && decide (f.pos < ((f.cells.length : Nat) : Int)) with
  | false => exact ⟨f, .non, ⟨h1, h2, h3, h4⟩, .inl rfl, sIf_eq c1 (by rw [hv]; rfl)⟩
  | true =>
    rw [Bool.and_eq_true, decide_eq_true_eq, decide_eq_true_eq] at hv
    have hlt : f.pos.toNat < (f.cells.map PyData.int).length := by rw [List.length_map]; omega
    let x := f.cells[f.pos.toNat]'(by rw [List.length_map] at hlt; exact hlt)
    have hat : subs true opIx (subs true opIx (eVar 0) (eC (.int 0))) (subs true opIx (eVar 0) (eC (.int 1))) ρ = some (.val (.fr (.int x)), ρ) := by
      refine subs_val (g0 f _ _ _ _) (g1 f _ _ _ _) rfl ?_
      have := opIx_list hlt
      rw [List.getElem_map, show ((f.pos.toNat : Nat) : Int) = f.pos by omega] at this
      exact this
    let y : Int := if x < 0 then -x else x
    have hy : 0 ≤ y := by show (0 : Int) ≤ (if x < 0 then -x else x); split <;> omega
    have habs : un opAbs (un opInt (subs true opIx (subs true opIx (eVar 0) (eC (.int 0))) (subs true opIx (eVar 0) (eC (.int 1))))) ρ = some (.val (.fr (.int y)), ρ) := un_eq (un_eq hat rfl rfl) rfl rfl
    let f1 : Feed := ⟨f.cells, f.pos + 1, f.big, f.seed⟩
    let ρ1 : MS := [.pin f.tree, ow (.int many), .non, ow (.int y), .non]
    let ρ2 : MS := [.pin f1.tree, ow (.int many), .non, ow (.int y), .non]
    have t1 : sSet 3 _ ρ = some (.nx, ρ1) := sSet_val (i := 3) (ρ1 := ρ) habs rfl
    have t2 : sAugS true true opAddI (eVar 0) (eC (.int 1)) (eC (.int 1)) ρ1 = some (.nx, ρ2) := aug_own (ρ := ρ1) (i := 0) (k := 1) (s := .pin f.tree) (d := .int f.pos) (c := .int (f.pos + 1)) rfl rfl rfl rfl rfl rfl rfl rfl
    have c2 : cOf (bin true opGe (eVar 3) (bin true opPow (eC (.int 10)) (eC (.int 18)))) ρ2 = some (decide (10 ^ 18 ≤ y), ρ2) :=
      cOf_eq (bin_eq rfl (bin_eq (r := .fr (.int (10 ^ 18))) rfl rfl rfl rfl rfl (opI_ii (by decide))) rfl rfl rfl (ge_int _ _)) rfl
    cases hc : decide ((10 : Int) ^ 18 ≤ y) with
    | true =>
      let f2 : Feed := ⟨f.cells, f.pos + 1, y, f.seed⟩
      have t3 := put_own (qb := true) (g := eVar 3) (ga := eVar 0) (gb := eC (.int 2)) (ρ := ρ2) (ρ1 := ρ2) (ρ2 := ρ2) (ρ3 := ρ2) (i := 0) (k := 2) (s := .pin f1.tree) (ts := [.fr (.list (f.cells.map .int)), .fr (.int (f.pos + 1)), .fr (.int f.big), .fr (.int f.seed)]) (d := .int y) rfl rfl rfl rfl rfl rfl (by show 2 < 4; omega)
      exact ⟨f2, ow (.int y), ⟨by show 0 ≤ f.pos + 1; omega, hy, h3, h4⟩, .inr ⟨_, rfl⟩, sIf_eq c1 (by rw [decide_eq_true hv.1, decide_eq_true hv.2]; exact sSeq_eq t1 (sSeq_eq t2 (sIf_eq c2 (by rw [hc, if_pos rfl]; exact t3))))⟩
    | false =>
      let z : Int := (f.seed * 48271 + y * 69621 + (f.pos + 1)).fmod 2147483647
      let f2 : Feed := ⟨f.cells, f.pos + 1, f.big, z⟩
      have hz := fmod_bd (i := f.seed * 48271 + y * 69621 + (f.pos + 1)) (j := 2147483647) (by omega)
      have m1 : bin true opMul (subs true opIx (eVar 0) (eC (.int 3))) (eC (.int 48271)) ρ2 = some (.val (.fr (.int (f.seed * 48271))), ρ2) := bin_eq (g3 f1 _ _ _ _) rfl rfl rfl rfl (mul_int (by omega))
      have m2 : bin true opMul (eVar 3) (eC (.int 69621)) ρ2 = some (.val (.fr (.int (y * 69621))), ρ2) := bin_eq rfl rfl rfl rfl rfl (mul_int (by omega))
      have m3 : bin true opMod (un opInt (bin true opAdd (bin true opAdd (bin true opMul (subs true opIx (eVar 0) (eC (.int 3))) (eC (.int 48271))) (bin true opMul (eVar 3) (eC (.int 69621)))) (subs true opIx (eVar 0) (eC (.int 1))))) (eC (.int 2147483647)) ρ2 = some (.val (.fr (.int z)), ρ2) :=
        bin_eq (un_eq (bin_eq (bin_eq m1 m2 rfl rfl rfl (add_int _ _)) (g1 f1 _ _ _ _) rfl rfl rfl (add_int _ _)) rfl rfl) rfl rfl rfl rfl (mod_int (by omega))
      have t3 := put_own (qb := true) (ga := eVar 0) (gb := eC (.int 3)) (ρ := ρ2) (ρ1 := ρ2) (ρ2 := ρ2) (ρ3 := ρ2) (i := 0) (k := 3) (s := .pin f1.tree) (ts := [.fr (.list (f.cells.map .int)), .fr (.int (f.pos + 1)), .fr (.int f.big), .fr (.int f.seed)]) (d := .int z) (fz_eq m3 rfl) rfl rfl rfl rfl rfl (by show 3 < 4; omega)
      exact ⟨f2, ow (.int y), ⟨by show 0 ≤ f.pos + 1; omega, h2, hz.1, by show z < 2147483648; have := hz.2; omega⟩, .inr ⟨_, rfl⟩, sIf_eq c1 (by rw [decide_eq_true hv.1, decide_eq_true hv.2]; exact sSeq_eq t1 (sSeq_eq t2 (sIf_eq c2 (by rw [hc, if_neg Bool.false_ne_true]; exact t3))))⟩
end K71

namespace K71
open PySem PySem.Spec PyProof.Rows L2 DL
theorem draw_ok (f : Feed) (hf : f.ok) (many : Int) (h0 : 0 < many) (hb : many < 1073741824) : ∃ (f' : Feed) (told : Int), f'.ok ∧ 0 ≤ told ∧ told < many ∧ f__law_draw [.pin f.tree, ow (.int many)] = some (.fr (.int told), [.pin f'.tree, .non]) := by
  obtain ⟨f1, s3, hf1, hs3, t1⟩ := draw1 f hf many
  obtain ⟨h1, h2, h3, h4⟩ := hf1
  have g2 : ∀ (f : Feed) (s1 s2 s3 s4 : Sl), subs true opIx (eVar 0) (eC (.int 2)) [.pin f.tree, s1, s2, s3, s4] = some (.val (.fr (.int f.big)), [.pin f.tree, s1, s2, s3, s4]) := fun _ _ _ _ _ => rfl
  have g3 : ∀ (f : Feed) (s1 s2 s3 s4 : Sl), subs true opIx (eVar 0) (eC (.int 3)) [.pin f.tree, s1, s2, s3, s4] = some (.val (.fr (.int f.seed)), [.pin f.tree, s1, s2, s3, s4]) := fun _ _ _ _ _ => rfl
  let ρ : MS := [.pin f1.tree, ow (.int many), .non, s3, .non]
  have c1 : cOf (bin true opGt (subs true opIx (eVar 0) (eC (.int 2))) (eC (.int 0))) ρ = some (decide (0 < f1.big), ρ) := cOf_eq (bin_eq (g2 f1 _ _ _ _) rfl rfl rfl rfl (DL.gt_int _ _)) rfl
  cases hc : decide (0 < f1.big) with
  | true =>
    let told := f1.big.fmod many
    let f2 : Feed := ⟨f1.cells, f1.pos, f1.big.fdiv many, f1.seed⟩
    let ρ1 : MS := [.pin f1.tree, ow (.int many), .non, s3, ow (.int told)]
    let ρ2 : MS := [.pin f2.tree, ow (.int many), .non, s3, ow (.int told)]
    have t2 : sSet 4 (bin true opMod (un opInt (subs true opIx (eVar 0) (eC (.int 2)))) (eVar 1)) ρ = some (.nx, ρ1) := sSet_val (i := 4) (ρ1 := ρ) (bin_eq (un_eq (g2 f1 _ _ _ _) rfl rfl) rfl rfl rfl rfl (mod_int (by omega))) rfl
    have m1 : bin true opFdiv (subs true opIx (eVar 0) (eC (.int 2))) (eVar 1) ρ1 = some (.val (.fr (.int (f1.big.fdiv many))), ρ1) := bin_eq (g2 f1 _ _ _ _) rfl rfl rfl rfl (fdiv_int (by omega) (by omega))
    have t3 : sPut true putAny (bin true opFdiv (subs true opIx (eVar 0) (eC (.int 2))) (eVar 1)) (eVar 0) (eC (.int 2)) ρ1 = some (.nx, ρ2) :=
      put_own (qb := true) (ga := eVar 0) (gb := eC (.int 2)) (ρ := ρ1) (ρ1 := ρ1) (ρ2 := ρ1) (ρ3 := ρ1) (i := 0) (k := 2) (s := .pin f1.tree) (ts := [.fr (.list (f1.cells.map .int)), .fr (.int f1.pos), .fr (.int f1.big), .fr (.int f1.seed)]) (d := .int (f1.big.fdiv many)) (fz_eq m1 rfl) rfl rfl rfl rfl rfl (by show 2 < 4; omega)
    have hb2 := fmod_bd (i := f1.big) h0
    refine ⟨f2, told, ⟨h1, fdiv_nn h2 h0, h3, h4⟩, hb2.1, hb2.2, runFn_ret (ρ := ρ2) ⟨rfl, rfl⟩ (sSeq_eq t1 ?_)⟩
    have h5 : sIf (cOf (bin true opGt (subs true opIx (eVar 0) (eC (.int 2))) (eC (.int 0)))) (sSeq (sSet 4 (bin true opMod (un opInt (subs true opIx (eVar 0) (eC (.int 2)))) (eVar 1)))
      (sSeq (sPut true putAny (bin true opFdiv (subs true opIx (eVar 0) (eC (.int 2))) (eVar 1)) (eVar 0) (eC (.int 2)))
      (sRet (eVar 4)))) sNx ρ = some (.rt (.val (.fr (.int told))), ρ2) := sIf_eq c1 (by rw [hc, if_pos rfl]; exact sSeq_eq t2 (sSeq_eq t3 rfl))
    show (sIf _ _ _ ρ).bind _ = _
    rw [h5]; rfl
  | false =>
    let z : Int := (f1.seed * 16807 + 12345).fmod 2147483647
    have hz := fmod_bd (i := f1.seed * 16807 + 12345) (j := 2147483647) (by omega)
    let f2 : Feed := ⟨f1.cells, f1.pos, f1.big, z⟩
    let mixed : Int := (z * z + z).fmod 2147483629
    let told : Int := (mixed.fdiv 11).fmod many
    let ρ2 : MS := [.pin f2.tree, ow (.int many), .non, s3, .non]
    let ρ3 : MS := [.pin f2.tree, ow (.int many), ow (.int mixed), s3, .non]
    have m1 : bin true opMod (un opInt (bin true opAdd (bin true opMul (subs true opIx (eVar 0) (eC (.int 3))) (eC (.int 16807))) (eC (.int 12345)))) (eC (.int 2147483647)) ρ = some (.val (.fr (.int z)), ρ) :=
      bin_eq (un_eq (bin_eq (bin_eq (g3 f1 _ _ _ _) rfl rfl rfl rfl (mul_int (by omega))) rfl rfl rfl rfl (add_int _ _)) rfl rfl) rfl rfl rfl rfl (mod_int (by omega))
    have t3 : sPut true putAny (bin true opMod (un opInt (bin true opAdd (bin true opMul (subs true opIx (eVar 0) (eC (.int 3))) (eC (.int 16807))) (eC (.int 12345)))) (eC (.int 2147483647))) (eVar 0) (eC (.int 3)) ρ = some (.nx, ρ2) :=
      put_own (qb := true) (ga := eVar 0) (gb := eC (.int 3)) (ρ := ρ) (ρ1 := ρ) (ρ2 := ρ) (ρ3 := ρ) (i := 0) (k := 3) (s := .pin f1.tree) (ts := [.fr (.list (f1.cells.map .int)), .fr (.int f1.pos), .fr (.int f1.big), .fr (.int f1.seed)]) (d := .int z) (fz_eq m1 rfl) rfl rfl rfl rfl rfl (by show 3 < 4; omega)
    have m2 : bin true opMul (subs true opIx (eVar 0) (eC (.int 3))) (subs true opIx (eVar 0) (eC (.int 3))) ρ2 = some (.val (.fr (.int (z * z))), ρ2) := bin_eq (g3 f2 _ _ _ _) (g3 f2 _ _ _ _) rfl rfl rfl (mul_int (by show -(2 ^ 64) < z ∧ z < 2 ^ 64; have := hz.1; have := hz.2; omega))
    have t4 : sSet 2 (bin true opMod (un opInt (bin true opAdd (bin true opMul (subs true opIx (eVar 0) (eC (.int 3))) (subs true opIx (eVar 0) (eC (.int 3)))) (subs true opIx (eVar 0) (eC (.int 3))))) (eC (.int 2147483629))) ρ2 = some (.nx, ρ3) :=
      sSet_val (i := 2) (ρ1 := ρ2) (bin_eq (un_eq (bin_eq m2 (g3 f2 _ _ _ _) rfl rfl rfl (add_int _ _)) rfl rfl) rfl rfl rfl rfl (mod_int (by omega))) rfl
    have t5 : sRet (bin true opMod (bin true opFdiv (eVar 2) (eC (.int 11))) (eVar 1)) ρ3 = some (.rt (.val (.fr (.int told))), ρ3) :=
      sRet_eq (bin_eq (bin_eq rfl rfl rfl rfl rfl (fdiv_int (by omega) (by decide))) rfl rfl rfl rfl (mod_int (by omega)))
    have hb2 := fmod_bd (i := mixed.fdiv 11) h0
    exact ⟨f2, told, ⟨h1, h2, hz.1, by show z < 2147483648; have := hz.2; omega⟩, hb2.1, hb2.2, runFn_ret (ρ := ρ3) ⟨rfl, rfl⟩ (sSeq_eq t1 (sSeq_eq (ρ1 := ρ) (sIf_eq c1 (by rw [hc]; rfl)) (sSeq_eq t3 (sSeq_eq t4 t5))))⟩
/-- a draw from a variable -/
theorem draw_var {f : Feed} (hf : f.ok) {i : Nat} {ρ ρ1 : MS} {s : Sl} {gs : DL.M (List PyData)} {q : Bool} {many : Int} (e : ρ1[i]? = some s) (hs : s = .own f.tree ∨ s = .pin f.tree) (e0 : ρ[i]? = some s) (hgs : gs ρ = some ([.int many], ρ1)) (h0 : 0 < many) (hb : many < 1073741824) :
    ∃ (f' : Feed) (told : Int), f'.ok ∧ 0 ≤ told ∧ told < many ∧ eFnL f__law_draw (lHere q (eVar i) gs) ρ = some (.val (.fr (.int told)), ρ1.set i (s.with f'.tree)) := by
  obtain ⟨f', told, a, b, c, d⟩ := draw_ok f hf many h0 hb
  have hv : eVar i ρ = some (.bor i [], ρ) := by
    show (ρ[i]?.bind Sl.tree?).map _ = _
    rw [e0]
    rcases hs with rfl | rfl <;> rfl
  have hl : lHere q (eVar i) gs ρ = some (([], .bor i [], [.int many]), ρ1) := lHere_gen hv hgs waits0
  refine ⟨f', told, a, b, c, ?_⟩
  have e0 : ∀ gl, eFnL f__law_draw gl ρ = (gl ρ).bind fun x => match x.1.2.1 with
    | .val t => (f__law_draw (x.1.1.map ofr ++ .own t :: x.1.2.2.map ofr)).map fun z => (.val z.1, x.2)
    | .bor i p => x.2[i]?.bind fun s => s.tree?.bind fun t0 => (t0.get p).bind fun t => (f__law_draw (x.1.1.map ofr ++ .pin t :: x.1.2.2.map ofr)).bind fun z => match z.2[x.1.1.length]? with
      | some (.pin t') => some (.val z.1, x.2.set i (s.with (t0.put p t')))
      | _ => none := fun _ => rfl
  rw [e0, hl, Option.bind_some]
  show (ρ1[i]?.bind _) = _
  rw [e, Option.bind_some]
  have ht : s.tree? = some f.tree := by rcases hs with rfl | rfl <;> rfl
  rw [ht, Option.bind_some]
  show (some f.tree).bind _ = _
  rw [Option.bind_some]
  show (f__law_draw [.pin f.tree, ow (.int many)]).bind _ = _
  rw [d]
  rfl
end K71

namespace DL
open PySem PySem.Spec PyProof.Rows L2
/-- a made list whose tests change the state: some of the ints walked -/
theorem lcLoop_st {vs : List Nat} {m : GM} {c : M Bool} {e : M R} (S : MS → Prop) : ∀ (xs : List Nat) (ρ : MS), (∀ k ∈ xs, ∀ ρ, S ρ → ∃ ρ1 b ρ2, m (.int (k : Nat)) (wipeM vs ρ) = some ρ1 ∧ c ρ1 = some (b, ρ2) ∧ (b = true → fz e ρ2 = some (.int (k : Nat), ρ2)) ∧ S ρ2) → S ρ →
    ∃ ys ρ', lcLoop vs m c e (natD xs) ρ = some (natD ys, ρ') ∧ ys.Sublist xs ∧ S ρ'
  | [], ρ, _, hS => ⟨[], ρ, rfl, List.Sublist.refl _, hS⟩
  | k :: xs, ρ, h, hS => by
    obtain ⟨ρ1, b, ρ2, h1, h2, h3, h4⟩ := h k List.mem_cons_self ρ hS
    obtain ⟨ys, ρ', a1, a2, a3⟩ := lcLoop_st S xs ρ2 (fun j hj => h j (List.mem_cons_of_mem _ hj)) h4
    have e0 : lcLoop vs m c e (natD (k :: xs)) ρ = (m (.int (k : Nat)) (wipeM vs ρ)).bind fun ρ1 => (c ρ1).bind fun x => if x.1 then (fz e x.2).bind fun y => (lcLoop vs m c e (natD xs) y.2).map fun z => (y.1 :: z.1, z.2) else lcLoop vs m c e (natD xs) x.2 := rfl
    cases b with
    | true =>
      refine ⟨k :: ys, ρ', ?_, a2.cons₂ k, a3⟩
      rw [e0, h1, Option.bind_some, h2, Option.bind_some, if_pos rfl, h3 rfl, Option.bind_some, a1]
      rfl
    | false =>
      refine ⟨ys, ρ', ?_, a2.cons k, a3⟩
      rw [e0, h1, Option.bind_some, h2, Option.bind_some, if_neg Bool.false_ne_true]
      exact a1
theorem lcM_st {src : Src} {vs : List Nat} {m : GM} {c : M Bool} {e : M R} {ρ ρ1 : MS} (S : MS → Prop) (xs : List Nat) (hs : src ρ = some ((natD xs, none), ρ1)) (hl : xs.length ≤ sizeLine) (h0 : S ρ1)
    (h : ∀ k ∈ xs, ∀ ρ, S ρ → ∃ ρ1 b ρ2, m (.int (k : Nat)) (wipeM vs ρ) = some ρ1 ∧ c ρ1 = some (b, ρ2) ∧ (b = true → fz e ρ2 = some (.int (k : Nat), ρ2)) ∧ S ρ2) (hp : (vs.all fun v => plainSl ρ1[v]?) = true) :
    ∃ ys ρ', lcM src vs m c e ρ = some (.val (.lst ((natD ys).map T.fr)), giveBack vs ρ1 (wipeM vs ρ')) ∧ ys.Sublist xs ∧ S ρ' := by
  obtain ⟨ys, ρ', a, b, d⟩ := lcLoop_st S xs ρ1 h h0
  refine ⟨ys, ρ', ?_, b, d⟩
  have e0 : lcM src vs m c e ρ = (src ρ).bind fun x => if ((vs.all fun v => plainSl (hideM x.1.2 x.2)[v]?) && lineOk x.1.1) = true then
    (lcLoop vs m c e x.1.1 (hideM x.1.2 x.2)).bind fun z => (unhide x.1.2 x.2 (giveBack vs (hideM x.1.2 x.2) (wipeM vs z.2))).map fun ρ3 => (R.val (.lst (z.1.map T.fr)), ρ3) else none := rfl
  rw [e0, hs, Option.bind_some]
  show (if ((vs.all fun v => plainSl ρ1[v]?) && lineOk (natD xs)) = true then (lcLoop vs m c e (natD xs) ρ1).bind fun z => some (R.val (.lst (z.1.map T.fr)), giveBack vs ρ1 (wipeM vs z.2)) else none) = _
  rw [hp, show lineOk (natD xs) = true from decide_eq_true (by rw [natD_len]; exact hl), if_pos (show (true && true) = true from rfl), a]
  rfl
theorem notIn_nat (sl : List Nat) (k : Nat) : opNotIn (.fr (.int (k : Nat))) (.lst ((natD sl).map T.fr)) = some (.fr (.bool (!sl.contains k))) := by
  show (memT _ _).map _ = _
  rw [natD_int, memL_ints]
  show some (T.fr (.bool (!(sl.map fun (k : Nat) => (k : Int)).contains (k : Int)))) = _
  congr 4
  induction sl with
  | nil => rfl
  | cons a sl ih =>
    rw [List.map_cons, List.contains_cons, List.contains_cons, ih]
    have hb : ((k : Int) == (a : Int)) = (k == a) := by
      by_cases h : k = a
      · subst h; exact (beq_self_eq_true _).trans (beq_self_eq_true _).symm
      · have : ¬ (k : Int) = (a : Int) := by omega
        rw [beq_eq_false_iff_ne.mpr this, beq_eq_false_iff_ne.mpr h]
    rw [hb]
theorem ne_nat (i j : Nat) : opNe (.fr (.int (i : Nat))) (.fr (.int (j : Nat))) = some (.fr (.bool (!(i == j)))) := by
  show (eqD (.int i) (.int j)).map (fun b => T.fr (.bool (!b))) = _
  have : eqD (.int (i : Int)) (.int (j : Int)) = some (PyData.eqv (.int i) (.int j)) := rfl
  rw [this, eqv_int]
  show some (T.fr (.bool (!decide ((i : Int) = (j : Int))))) = _
  congr 4
  by_cases h : i = j
  · subst h; simp
  · have : ¬ (i : Int) = (j : Int) := by omega
    simp [h, this]
theorem sorted_nat (xs : List Nat) : ∃ ys : List Nat, ys.Perm xs ∧ opSorted (.lst ((natD xs).map T.fr)) = some (.lst ((natD ys).map T.fr)) := by
  have hall : ∀ z ∈ sortI (xs.map fun (k : Nat) => (k : Int)), 0 ≤ z := fun z hz => by
    obtain ⟨k, _, rfl⟩ := List.mem_map.mp ((sortI_perm _).mem_iff.mp hz)
    omega
  let ys := (sortI (xs.map fun (k : Nat) => (k : Int))).map Int.toNat
  have e : (ys.map fun (k : Nat) => (k : Int)) = sortI (xs.map fun (k : Nat) => (k : Int)) := by
    show ((sortI (xs.map fun (k : Nat) => (k : Int))).map Int.toNat).map (fun (k : Nat) => (k : Int)) = _
    rw [List.map_map]
    conv => rhs; rw [← List.map_id (sortI (xs.map fun (k : Nat) => (k : Int)))]
    exact List.map_congr_left fun z hz => by have := hall z hz; show ((z.toNat : Nat) : Int) = z; omega
  have hp : ys.Perm xs := by
    have h1 := (sortI_perm (xs.map fun (k : Nat) => (k : Int))).map Int.toNat
    rw [List.map_map] at h1
    have h2 : xs.map (Int.toNat ∘ fun (k : Nat) => (k : Int)) = xs := by
      conv => rhs; rw [← List.map_id xs]
      exact List.map_congr_left fun z _ => by show ((z : Int)).toNat = z; omega
    rw [h2] at h1
    exact h1
  refine ⟨ys, hp, ?_⟩
  unfold opSorted
  rw [view_list, Option.bind_some, natD_int, DL.ints_map, Option.map_some, natD_int, e]
end DL

namespace K71
open PySem PySem.Spec PyProof.Rows L2 DL
def rowsS (rs : List Row) : Sl := .own (.lst ((rs.map Row.enc).map T.fr))
/-- the state of _law_core's loop -/
def CS (f : Feed) (ins most : Int) (sl : List Nat) (rs : List Row) (bits : Nat) (s7 s12 s13 s14 s15 s16 : Sl) : MS :=
  [.pin f.tree, ow (.int ins), ow (.int 4), ow (.int most), owl sl, rowsS rs, ow (.int (bits : Nat)), s7, .non, .non, .non, .non, s12, s13, s14, s15, s16]
/-- a row whose data may be laid -/
def RowOk (r : Row) : Prop := r.slots.length ≤ 2 ∧ PyData.canLay0 r.enc = true ∧ r.enc.depth ≤ 2
structure CI (f : Feed) (sl : List Nat) (rs : List Row) (bits t : Nat) : Prop where
  f : f.ok
  nd : sl.Nodup
  len : sl.length ≤ 4
  bits : bits ≤ 4
  rows : rs.length ≤ t
  each : ∀ r ∈ rs, RowOk r
def pick (s : Sl) : Prop := s = .non ∨ ∃ t, s = .own t
variable {f : Feed} {ins most : Int} {sl : List Nat} {rs : List Row} {bits t : Nat} {s7 s12 s13 s14 s15 s16 : Sl}
/-- a draw by a constant -/
theorem draw_c (hf : f.ok) (many : Nat) (h0 : 0 < many) (hb : many < 1000000) {q : Bool} {gs : DL.M (List PyData)} (hgs : gs (CS f ins most sl rs bits s7 s12 s13 s14 s15 s16) = some ([.int (many : Nat)], CS f ins most sl rs bits s7 s12 s13 s14 s15 s16)) :
    ∃ (f' : Feed) (told : Nat), f'.ok ∧ told < many ∧ eFnL f__law_draw (lHere q (eVar 0) gs) (CS f ins most sl rs bits s7 s12 s13 s14 s15 s16) = some (.val (.fr (.int (told : Nat))), CS f' ins most sl rs bits s7 s12 s13 s14 s15 s16) := by
  obtain ⟨f', told, a, b, c, d⟩ := draw_var hf (i := 0) (s := .pin f.tree) (q := q) (many := (many : Int)) rfl (.inr rfl) rfl hgs (by omega) (by omega)
  refine ⟨f', told.toNat, a, by omega, ?_⟩
  rw [show ((told.toNat : Nat) : Int) = told by omega]
  exact d
theorem len_slots : un opLen (eVar 4) (CS f ins most sl rs bits s7 s12 s13 s14 s15 s16) = some (.val (.fr (.int (sl.length : Nat))), CS f ins most sl rs bits s7 s12 s13 s14 s15 s16) := by
  refine un_eq (x := .bor 4 []) (t := .lst ((natD sl).map T.fr)) rfl rfl ?_
  show some (T.fr (.int ((((natD sl).map T.fr).length : Nat) : Int))) = _
  rw [List.length_map, natD_len]
def freeOf (sl : List Nat) : List Nat := (List.range 6).filter fun k => !sl.contains k
theorem nodup_sub : ∀ {xs ys : List Nat}, xs.Nodup → (∀ x ∈ xs, x ∈ ys) → xs.length ≤ ys.length
  | [], _, _, _ => Nat.zero_le _
  | x :: xs, ys, h, hs => by
    have hx := hs x List.mem_cons_self
    have h2 := List.nodup_cons.mp h
    have := nodup_sub (xs := xs) (ys := ys.erase x) h2.2 fun y hy => (List.mem_erase_of_ne (show y ≠ x from fun e => h2.1 (by rw [← e]; exact hy))).mpr (hs y (List.mem_cons_of_mem _ hy))
    rw [List.length_erase_of_mem hx] at this
    have hp : 0 < ys.length := List.length_pos_of_mem hx
    rw [List.length_cons]
    omega
theorem free_len (h : sl.length ≤ 3) : 0 < (freeOf sl).length := by
  by_cases h0 : 0 < (freeOf sl).length
  · exact h0
  · exfalso
    have he : freeOf sl = [] := List.eq_nil_of_length_eq_zero (by omega)
    have := nodup_sub (xs := List.range 6) (ys := sl) List.nodup_range fun k hk => by
      have h1 := (List.filter_eq_nil_iff.mp he) k hk
      simpa using h1
    rw [List.length_range] at this
    omega
theorem free_ok : lcM (srcR rng1 (aCons (eC (.int 6)) (aNil))) [10] (gNm 10) (cOf (bin true opNotIn (eVar 10) (eVar 4))) (eVar 10) (CS f ins most sl rs bits s7 s12 s13 s14 s15 s16) = some (.val (.lst ((natD (freeOf sl)).map T.fr)), CS f ins most sl rs bits s7 s12 s13 s14 s15 s16) := by
  have h := lcM_nat (vs := [10]) (m := gNm 10) (c := cOf (bin true opNotIn (eVar 10) (eVar 4))) (e := eVar 10) (ρ1 := CS f ins most sl rs bits s7 s12 s13 s14 s15 s16) (ρ3 := CS f ins most sl rs bits s7 s12 s13 s14 s15 s16) (hd := none) (src := srcR rng1 (aCons (eC (.int 6)) (aNil))) (ρ := CS f ins most sl rs bits s7 s12 s13 s14 s15 s16) (List.range 6) (fun k => !sl.contains k) (fun k => .int (k : Nat))
    (srcR_eq (ds := [.int ((6 : Nat) : Int)]) rfl (rng1_nat (by omega))) (by rw [List.length_range, sizeLine_eq]; omega) (fun k hk => by
      refine ⟨(CS f ins most sl rs bits s7 s12 s13 s14 s15 s16).set 10 (ow (.int (k : Nat))), rfl, ?_, fun _ => rfl, rfl⟩
      exact cOf_eq (bin_eq (y := .bor 4 []) rfl rfl rfl rfl rfl (notIn_nat sl k)) rfl) rfl rfl
  exact h
end K71

namespace K71
open PySem PySem.Spec PyProof.Rows L2 DL
variable {f f' : Feed} {ins most : Int} {sl : List Nat} {rs : List Row} {bits t : Nat} {s7 s12 s13 s14 s15 s16 : Sl} {q : Bool} {e : DL.M DL.R} {r : Row}
/-- one row more -/
theorem append_row (h : fz e (CS f ins most sl rs bits s7 s12 s13 s14 s15 s16) = some (r.enc, CS f' ins most sl rs bits s7 s12 s13 s14 s15 s16)) (hl : rs.length ≤ 100) :
    sExpr (mutM "list" q lAppend (eVar 5) (bConsF e bNil)) (CS f ins most sl rs bits s7 s12 s13 s14 s15 s16) = some (.nx, CS f' ins most sl (rs ++ [r]) bits s7 s12 s13 s14 s15 s16) := by
  have hb : bConsF e bNil (CS f ins most sl rs bits s7 s12 s13 s14 s15 s16) = some ([.fr r.enc], CS f' ins most sl rs bits s7 s12 s13 s14 s15 s16) := by
    have e0 : ∀ g : DL.M DL.R, ∀ ρ, bConsF g bNil ρ = (fz g ρ).bind fun x => (bNil x.2).map fun y => (.fr x.1 :: y.1, y.2) := fun _ _ => rfl
    rw [e0, h]; rfl
  have ha := append_eq (q := q) (g := eVar 5) (i := 5) (s := rowsS rs) (t0 := .lst ((rs.map Row.enc).map T.fr)) (ρ := CS f ins most sl rs bits s7 s12 s13 s14 s15 s16) rfl rfl rfl hb rfl rfl (by rw [List.length_map, List.length_map, sizeLine_eq]; omega)
  have e4 : (rs.map Row.enc).map T.fr ++ [T.fr r.enc] = ((rs ++ [r]).map Row.enc).map T.fr := by
    rw [List.map_append, List.map_append]; rfl
  rw [e4] at ha
  exact sExpr_eq ha
/-- a constant list's item, by a draw -/
theorem pick_c {g : DL.M DL.R} {gl : DL.M DL.R} {ρ ρ' : MS} {ds : List PyData} {k : Nat} (h1 : g ρ = some (.val (.lst (ds.map T.fr)), ρ)) (h2 : gl ρ = some (.val (.fr (.int (k : Nat))), ρ')) (hk : k < ds.length) : subs q opIx g gl ρ = some (.val (.fr ds[k]), ρ') := by
  refine subs_val h1 h2 rfl ?_
  show (match T.asList (.lst (ds.map T.fr)) with
    | some ds => (some (k : Int)).bind fun i => (atI ds i).map T.fr
    | none => _) = _
  rw [view_list]
  show ((some (k : Int)).bind fun i => (atI ds i).map T.fr) = _
  rw [Option.bind_some, atI_at hk]; rfl
/-- an item of an own list, by a draw that changes the feed -/
theorem pick_v {gl : DL.M DL.R} {ρ ρ' : MS} {i k : Nat} {xs : List Nat} (e : ρ[i]? = some (owl xs)) (e' : ρ'[i]? = some (owl xs)) (h2 : gl ρ = some (.val (.fr (.int (k : Nat))), ρ')) (hk : k < xs.length) : subs q opIx (eVar i) gl ρ = some (.val (.fr (.int (xs[k] : Nat))), ρ') := by
  have h1 : eVar i ρ = some (.bor i [], ρ) := by
    show (ρ[i]?.bind Sl.tree?).map _ = _
    rw [e]; rfl
  have hk2 : k < (natD xs).length := by rw [natD_len]; exact hk
  have l1 : look ρ' (.bor i []) = some (.lst ((natD xs).map T.fr)) := by
    show (ρ'[i]?.bind Sl.tree?).bind _ = _
    rw [e']; rfl
  have b1 := subs_own (q := q) (f := opIx) (ga := eVar i) (gb := gl) (ρ := ρ) (i := i) h1 h2 l1 rfl hk2
  rw [natD_get hk2] at b1
  exact b1
end K71

namespace K71
open PySem PySem.Spec PyProof.Rows L2 DL
variable {f f' : Feed} {ins most : Int} {sl : List Nat} {rs : List Row} {bits t a : Nat} {s7 s12 s13 s14 s15 s16 : Sl} {q : Bool} {e : DL.M DL.R} {r : Row}
abbrev others (sl : List Nat) (a : Nat) : List Nat := sl.filter fun k => !(k == a)
theorem others_ok (hl : sl.length ≤ 100) : lcM (srcV T.asList (eVar 4)) [10] (gNm 10) (cOf (bin true opNe (eVar 10) (eVar 14))) (eVar 10) (CS f ins most sl rs bits s7 s12 s13 (ow (.int (a : Nat))) s15 s16) = some (.val (.lst ((natD (others sl a)).map T.fr)), CS f ins most sl rs bits s7 s12 s13 (ow (.int (a : Nat))) s15 s16) := by
  have hsrc : srcV T.asList (eVar 4) (CS f ins most sl rs bits s7 s12 s13 (ow (.int (a : Nat))) s15 s16) = some ((natD sl, some 4), CS f ins most sl rs bits s7 s12 s13 (ow (.int (a : Nat))) s15 s16) := srcV_eq (x := .bor 4 []) rfl rfl (view_list _)
  exact lcM_nat (vs := [10]) (m := gNm 10) (c := cOf (bin true opNe (eVar 10) (eVar 14))) (e := eVar 10) (ρ3 := CS f ins most sl rs bits s7 s12 s13 (ow (.int (a : Nat))) s15 s16) sl (fun k => !(k == a)) (fun k => .int (k : Nat)) hsrc (by rw [sizeLine_eq]; omega) (fun k hk => by
    refine ⟨((CS f ins most sl rs bits s7 s12 s13 (ow (.int (a : Nat))) s15 s16).set 4 .hid).set 10 (ow (.int (k : Nat))), rfl, ?_, fun _ => rfl, rfl⟩
    exact cOf_eq (bin_eq rfl rfl rfl rfl rfl (ne_nat k a)) rfl) rfl rfl
theorem d_read (hl : sl.length ≤ 100) (hr : rs.length ≤ 100) : sSeq (sExpr (mutM "list" true lAppend (eVar 5) (bConsF (eTup (aCons (eC (.str "read")) (aCons (eVar 14) (aCons (eVar 6) (aNil))))) (bNil))))
  (sSeq (sAug 6 opAddI (eC (.int 1)))
  (sSet 4 (lcM (srcV T.asList (eVar 4)) [10] (gNm 10) (cOf (bin true opNe (eVar 10) (eVar 14))) (eVar 10)))) (CS f ins most sl rs bits s7 s12 s13 (ow (.int (a : Nat))) s15 s16)
    = some (.nx, CS f ins most (others sl a) (rs ++ [.read a bits]) (bits + 1) s7 s12 s13 (ow (.int (a : Nat))) s15 s16) := by
  refine sSeq_eq (append_row (f' := f) (r := .read a bits) rfl hr) (sSeq_eq (ρ1 := CS f ins most sl (rs ++ [.read a bits]) (bits + 1) s7 s12 s13 (ow (.int (a : Nat))) s15 s16) ?_ ?_)
  · rfl
  · exact sSet_val (i := 4) (ρ1 := CS f ins most sl (rs ++ [.read a bits]) (bits + 1) s7 s12 s13 (ow (.int (a : Nat))) s15 s16) (others_ok hl) rfl
theorem others_len (h : sl.Nodup) (ha : a ∈ sl) : (others sl a).length = sl.length - 1 := by
  have e : others sl a = sl.erase a := by
    show sl.filter (fun k => !(k == a)) = _
    rw [List.Nodup.erase_eq_filter h]
    rfl
  rw [e, List.length_erase_of_mem ha]
end K71

namespace K71
open PySem PySem.Spec PyProof.Rows L2 DL
variable {f f' : Feed} {ins most : Int} {sl : List Nat} {rs : List Row} {bits t a : Nat} {s7 s12 s13 s14 s15 s16 : Sl} {q : Bool} {e : DL.M DL.R} {r : Row}
theorem len_free {xs : List Nat} : un opLen (eVar 13) (CS f ins most sl rs bits s7 s12 (owl xs) s14 s15 s16) = some (.val (.fr (.int (xs.length : Nat))), CS f ins most sl rs bits s7 s12 (owl xs) s14 s15 s16) := by
  refine un_eq (x := .bor 13 []) (t := .lst ((natD xs).map T.fr)) rfl rfl ?_
  show some (T.fr (.int ((((natD xs).map T.fr).length : Nat) : Int))) = _
  rw [List.length_map, natD_len]
theorem d_new (hf : f.ok) (hl : sl.length ≤ 3) (hnd : sl.Nodup) (hr : rs.length ≤ 100) (h14 : Fre s14) : ∃ (f' : Feed) (sl' : List Nat) (a : Nat), f'.ok ∧ sl'.Nodup ∧ sl'.length ≤ 4 ∧
    sSeq (sSet 14 (subs false opIx (eVar 13) (eFnL f__law_draw (lHere true (eVar 0) (aCons (un opLen (eVar 13)) (aNil))))))
  (sSeq (sExpr (mutM "list" true lAppend (eVar 5) (bConsF (eTup (aCons (eC (.str "new")) (aCons (eVar 14) (aNil)))) (bNil))))
    (sSet 4 (un opSorted (bin true opAdd (eVar 4) (eLst (aCons (eVar 14) (aNil))))))) (CS f ins most sl rs bits s7 s12 (owl (freeOf sl)) s14 s15 s16)
    = some (.nx, CS f' ins most sl' (rs ++ [.new a]) bits s7 s12 (owl (freeOf sl)) (ow (.int (a : Nat))) s15 s16) := by
  have hfl := free_len hl
  have hfl2 : (freeOf sl).length ≤ 6 := by
    have := List.length_filter_le (fun k => !sl.contains k) (List.range 6)
    rw [List.length_range] at this
    exact this
  obtain ⟨f', told, hf', ht, hd⟩ := draw_c (ins := ins) (most := most) (sl := sl) (rs := rs) (bits := bits) (s7 := s7) (s12 := s12) (s13 := owl (freeOf sl)) (s14 := s14) (s15 := s15) (s16 := s16) hf (freeOf sl).length hfl (by omega) (q := true) (gs := aCons (un opLen (eVar 13)) aNil) (aCons_eq len_free rfl rfl)
  let a := (freeOf sl)[told]
  have hna : a ∉ sl := by
    have hm : a ∈ freeOf sl := List.getElem_mem ht
    have := (List.mem_filter.mp hm).2
    simpa using this
  have p1 := pick_v (q := false) (i := 13) (xs := freeOf sl) rfl rfl hd ht
  have t1 : sSet 14 (subs false opIx (eVar 13) (eFnL f__law_draw (lHere true (eVar 0) (aCons (un opLen (eVar 13)) (aNil))))) (CS f ins most sl rs bits s7 s12 (owl (freeOf sl)) s14 s15 s16) = some (.nx, CS f' ins most sl rs bits s7 s12 (owl (freeOf sl)) (ow (.int (a : Nat))) s15 s16) :=
    sSet_val (i := 14) (ρ1 := CS f' ins most sl rs bits s7 s12 (owl (freeOf sl)) s14 s15 s16) p1 (by rcases h14 with rfl | ⟨d, rfl⟩ <;> rfl)
  obtain ⟨sl', hp, hs⟩ := sorted_nat (sl ++ [a])
  have hadd : bin true opAdd (eVar 4) (eLst (aCons (eVar 14) aNil)) (CS f' ins most sl (rs ++ [.new a]) bits s7 s12 (owl (freeOf sl)) (ow (.int (a : Nat))) s15 s16) = some (.val (.lst ((natD (sl ++ [a])).map T.fr)), CS f' ins most sl (rs ++ [.new a]) bits s7 s12 (owl (freeOf sl)) (ow (.int (a : Nat))) s15 s16) := by
    have h := opAdd_lst (ds := natD sl) (es := natD [a]) (by rw [natD_len, natD_len, sizeLine_eq]; simp; omega)
    have e : natD sl ++ natD [a] = natD (sl ++ [a]) := by unfold natD; rw [List.map_append]
    rw [e] at h
    exact bin_eq (x := .bor 4 []) (t := .lst ((natD sl).map T.fr)) (u := .lst ((natD [a]).map T.fr)) rfl rfl rfl rfl rfl h
  refine ⟨f', sl', a, hf', ?_, by rw [hp.length_eq, List.length_append]; simp; omega, sSeq_eq t1 (sSeq_eq (append_row (f' := f') (r := .new a) rfl hr) (sSet_val (i := 4) (ρ1 := CS f' ins most sl (rs ++ [.new a]) bits s7 s12 (owl (freeOf sl)) (ow (.int (a : Nat))) s15 s16) (un_eq hadd rfl hs) rfl))⟩
  refine hp.nodup_iff.mpr (List.nodup_append.mpr ⟨hnd, by simp, fun x hx y hy e => ?_⟩)
  have : y = a := by simpa using hy
  subst this
  exact hna (e ▸ hx)
end K71

namespace K71
open PySem PySem.Spec PyProof.Rows L2 DL
variable {f f' : Feed} {ins most : Int} {sl : List Nat} {rs : List Row} {bits t a : Nat} {s7 s12 s13 s14 s15 s16 : Sl} {q : Bool} {e : DL.M DL.R} {r : Row}
def oneT : List PyData := [.str "h", .str "s", .str "h", .str "r", .str "x", .str "y", .str "z"]
def twoT : List PyData := [.str "cx", .str "cz", .str "sw"]
theorem one_str {k : Nat} (h : k < 7) : ∃ x : Str, oneT[k]'h = .str x ∧ PyData.canLay0 (.str x) = true := by
  match k, h with
  | 0, _ => exact ⟨_, rfl, by decide +kernel⟩
  | 1, _ => exact ⟨_, rfl, by decide +kernel⟩
  | 2, _ => exact ⟨_, rfl, by decide +kernel⟩
  | 3, _ => exact ⟨_, rfl, by decide +kernel⟩
  | 4, _ => exact ⟨_, rfl, by decide +kernel⟩
  | 5, _ => exact ⟨_, rfl, by decide +kernel⟩
  | 6, _ => exact ⟨_, rfl, by decide +kernel⟩
theorem two_str {k : Nat} (h : k < 3) : ∃ x : Str, twoT[k]'h = .str x ∧ PyData.canLay0 (.str x) = true := by
  match k, h with
  | 0, _ => exact ⟨_, rfl, by decide +kernel⟩
  | 1, _ => exact ⟨_, rfl, by decide +kernel⟩
  | 2, _ => exact ⟨_, rfl, by decide +kernel⟩
theorem lay_new : PyData.canLay0 (.str "new") = true := by decide +kernel
theorem lay_read : PyData.canLay0 (.str "read") = true := by decide +kernel
theorem lay_fix : PyData.canLay0 (.str "fix") = true := by decide +kernel
theorem lay_turn : PyData.canLay0 (.str "turn") = true := by decide +kernel
theorem depth_nat (xs : List Int) : PyData.depth (inL xs) = 1 := by
  show PyData.depthAll (xs.map PyData.int) + 1 = 1
  rw [depth_ints]
theorem row_new (a : Nat) : RowOk (.new a) := ⟨by simp [Row.slots], by
  show (PyData.canLay0 (.str "new") && (true && true)) = true
  rw [lay_new]; rfl, by show max 0 (max 0 0) + 1 ≤ 2; omega⟩
theorem row_read (a b : Nat) : RowOk (.read a b) := ⟨by simp [Row.slots], by
  show (PyData.canLay0 (.str "read") && (true && (true && true))) = true
  rw [lay_read]; rfl, by show max 0 (max 0 (max 0 0)) + 1 ≤ 2; omega⟩
theorem row_fix {p : Str} (a : Nat) (ks : List Int) (hp : PyData.canLay0 (.str p) = true) : RowOk (.fix p a ks) := ⟨by simp [Row.slots], by
  show (PyData.canLay0 (.str "fix") && (PyData.canLay0 (.str p) && (true && (PyData.canLayAll0 (ks.map PyData.int) && true)))) = true
  rw [lay_fix, hp, lay_ints]; rfl, by
  show max 0 (max 0 (max 0 (max (PyData.depth (inL ks)) 0))) + 1 ≤ 2
  rw [depth_nat]; omega⟩
theorem row_turn {k : Str} (ss : List Int) (hl : ss.length ≤ 2) (hp : PyData.canLay0 (.str k) = true) : RowOk (.turn k ss) := ⟨hl, by
  show (PyData.canLay0 (.str "turn") && (PyData.canLay0 (.str k) && (PyData.canLayAll0 (ss.map PyData.int) && true))) = true
  rw [lay_turn, hp, lay_ints]; rfl, by
  show max 0 (max 0 (max (PyData.depth (inL ss)) 0)) + 1 ≤ 2
  rw [depth_nat]; omega⟩
end K71

namespace K71
open PySem PySem.Spec PyProof.Rows L2 DL
variable {f f' : Feed} {ins most : Int} {sl : List Nat} {rs : List Row} {bits t a b : Nat} {s7 s12 s13 s14 s15 s16 : Sl} {q : Bool} {e : DL.M DL.R} {r : Row}
theorem tup3_fz {g1 g2 g3 : DL.M DL.R} {ρ ρ1 ρ2 ρ3 : MS} {d1 d2 d3 : PyData} (h1 : fz g1 ρ = some (d1, ρ1)) (h2 : fz g2 ρ1 = some (d2, ρ2)) (h3 : fz g3 ρ2 = some (d3, ρ3)) : fz (eTup (aCons g1 (aCons g2 (aCons g3 aNil)))) ρ = some (.tuple [d1, d2, d3], ρ3) := by
  have ha : aCons g1 (aCons g2 (aCons g3 aNil)) ρ = some ([d1, d2, d3], ρ3) := aCons_fz h1 (aCons_fz h2 (aCons_fz h3 rfl))
  have hb : eTup (aCons g1 (aCons g2 (aCons g3 aNil))) ρ = some (.val (.fr (.tuple [d1, d2, d3])), ρ3) := by
    show ((aCons g1 (aCons g2 (aCons g3 aNil)) ρ).bind _) = _
    rw [ha]; rfl
  exact fz_eq hb rfl
theorem d_one (hf : f.ok) (hr : rs.length ≤ 100) : ∃ (f' : Feed) (r : Row), f'.ok ∧ RowOk r ∧ sExpr (mutM "list" false lAppend (eVar 5) (bConsF (eTup (aCons (eC (.str "turn")) (aCons (subs false opIx (eLst (aCons (eC (.str "h")) (aCons (eC (.str "s")) (aCons (eC (.str "h")) (aCons (eC (.str "r")) (aCons (eC (.str "x")) (aCons (eC (.str "y")) (aCons (eC (.str "z")) (aNil))))))))) (eFnL f__law_draw (lHere true (eVar 0) (aCons (eC (.int 7)) (aNil))))) (aCons (eLst (aCons (eVar 14) (aNil))) (aNil))))) (bNil)))
    (CS f ins most sl rs bits s7 s12 s13 (ow (.int (a : Nat))) s15 s16) = some (.nx, CS f' ins most sl (rs ++ [r]) bits s7 s12 s13 (ow (.int (a : Nat))) s15 s16) := by
  obtain ⟨f', told, hf', ht, hd⟩ := draw_c (ins := ins) (most := most) (sl := sl) (rs := rs) (bits := bits) (s7 := s7) (s12 := s12) (s13 := s13) (s14 := ow (.int (a : Nat))) (s15 := s15) (s16 := s16) hf 7 (by omega) (by omega) (q := true) (gs := aCons (eC (.int 7)) aNil) rfl
  obtain ⟨x, hx, hlx⟩ := one_str ht
  have p := pick_c (q := false) (ds := oneT) (g := eLst (aCons (eC (.str "h")) (aCons (eC (.str "s")) (aCons (eC (.str "h")) (aCons (eC (.str "r")) (aCons (eC (.str "x")) (aCons (eC (.str "y")) (aCons (eC (.str "z")) (aNil))))))))) rfl hd ht
  rw [hx] at p
  exact ⟨f', .turn x [(a : Int)], hf', row_turn _ (by simp) hlx, append_row (tup3_fz (ρ1 := CS f ins most sl rs bits s7 s12 s13 (ow (.int (a : Nat))) s15 s16) rfl (fz_eq p rfl) rfl) hr⟩
theorem d_two (hf : f.ok) (hl : sl.length ≤ 4) (h2 : 1 < sl.length) (hnd : sl.Nodup) (ha : a ∈ sl) (hr : rs.length ≤ 100) (h16 : Fre s16) : ∃ (f' : Feed) (r : Row) (s16' : Sl), f'.ok ∧ RowOk r ∧ Fre s16' ∧
    sSeq (sSet 16 (subs false opIx (lcM (srcV T.asList (eVar 4)) [10] (gNm 10) (cOf (bin true opNe (eVar 10) (eVar 14))) (eVar 10)) (eFnL f__law_draw (lHere true (eVar 0) (aCons (bin true opSub (un opLen (eVar 4)) (eC (.int 1))) (aNil))))))
  (sExpr (mutM "list" false lAppend (eVar 5) (bConsF (eTup (aCons (eC (.str "turn")) (aCons (subs false opIx (eLst (aCons (eC (.str "cx")) (aCons (eC (.str "cz")) (aCons (eC (.str "sw")) (aNil))))) (eFnL f__law_draw (lHere true (eVar 0) (aCons (eC (.int 3)) (aNil))))) (aCons (eLst (aCons (eVar 14) (aCons (eVar 16) (aNil)))) (aNil))))) (bNil))))
    (CS f ins most sl rs bits s7 s12 s13 (ow (.int (a : Nat))) s15 s16) = some (.nx, CS f' ins most sl (rs ++ [r]) bits s7 s12 s13 (ow (.int (a : Nat))) s15 s16') := by
  have hol := others_len hnd ha
  have hgs : aCons (bin true opSub (un opLen (eVar 4)) (eC (.int 1))) aNil (CS f ins most sl rs bits s7 s12 s13 (ow (.int (a : Nat))) s15 s16) = some ([.int ((sl.length - 1 : Nat) : Int)], CS f ins most sl rs bits s7 s12 s13 (ow (.int (a : Nat))) s15 s16) := by
    have h := bin_eq (q := true) (f := opSub) (gb := eC (.int 1)) (r := .fr (.int ((sl.length : Nat) - 1 : Int))) (len_slots (f := f) (ins := ins) (most := most) (sl := sl) (rs := rs) (bits := bits) (s7 := s7) (s12 := s12) (s13 := s13) (s14 := ow (.int (a : Nat))) (s15 := s15) (s16 := s16)) rfl rfl rfl rfl rfl
    rw [show ((sl.length : Nat) : Int) - 1 = ((sl.length - 1 : Nat) : Int) by omega] at h
    exact aCons_eq h rfl rfl
  obtain ⟨f1, told, hf1, ht, hd⟩ := draw_c (ins := ins) (most := most) (sl := sl) (rs := rs) (bits := bits) (s7 := s7) (s12 := s12) (s13 := s13) (s14 := ow (.int (a : Nat))) (s15 := s15) (s16 := s16) hf (sl.length - 1) (by omega) (by omega) (q := true) hgs
  have ho : told < (others sl a).length := by omega
  have p := pick_c (q := false) (ds := natD (others sl a)) (others_ok (f := f) (ins := ins) (most := most) (rs := rs) (bits := bits) (s7 := s7) (s12 := s12) (s13 := s13) (s15 := s15) (s16 := s16) (a := a) (by omega)) hd (by rw [natD_len]; exact ho)
  rw [natD_get] at p
  let b := (others sl a)[told]
  have t1 : sSet 16 _ (CS f ins most sl rs bits s7 s12 s13 (ow (.int (a : Nat))) s15 s16) = some (.nx, CS f1 ins most sl rs bits s7 s12 s13 (ow (.int (a : Nat))) s15 (ow (.int (b : Nat)))) :=
    sSet_val (i := 16) (ρ1 := CS f1 ins most sl rs bits s7 s12 s13 (ow (.int (a : Nat))) s15 s16) p (by rcases h16 with rfl | ⟨d, rfl⟩ <;> rfl)
  obtain ⟨f2, told2, hf2, ht2, hd2⟩ := draw_c (ins := ins) (most := most) (sl := sl) (rs := rs) (bits := bits) (s7 := s7) (s12 := s12) (s13 := s13) (s14 := ow (.int (a : Nat))) (s15 := s15) (s16 := ow (.int (b : Nat))) hf1 3 (by omega) (by omega) (q := true) (gs := aCons (eC (.int 3)) aNil) rfl
  obtain ⟨x, hx, hlx⟩ := two_str ht2
  have p2 := pick_c (q := false) (ds := twoT) (g := eLst (aCons (eC (.str "cx")) (aCons (eC (.str "cz")) (aCons (eC (.str "sw")) (aNil))))) rfl hd2 ht2
  rw [hx] at p2
  exact ⟨f2, .turn x [(a : Int), (b : Int)], _, hf2, row_turn _ (by simp) hlx, .inr ⟨_, rfl⟩, sSeq_eq t1 (append_row (tup3_fz (ρ1 := CS f1 ins most sl rs bits s7 s12 s13 (ow (.int (a : Nat))) s15 (ow (.int (b : Nat)))) rfl (fz_eq p2 rfl) rfl) hr)⟩
end K71

namespace K71
open PySem PySem.Spec PyProof.Rows L2 DL
variable {f f' : Feed} {ins most : Int} {sl : List Nat} {rs : List Row} {bits t a b : Nat} {s7 s12 s13 s14 s15 s16 : Sl} {q : Bool} {e : DL.M DL.R} {r : Row}
/-- some of the bits, by draws -/
theorem some_bits (hf : f.ok) (hb : bits ≤ 4) : ∃ (f' : Feed) (ys : List Nat), f'.ok ∧ ys.length ≤ 4 ∧
    lcM (srcR rng1 (aCons (eVar 6) (aNil))) [10] (gNm 10) (cOf (bin true opEq (eFnL f__law_draw (lHere true (eVar 0) (aCons (eC (.int 2)) (aNil)))) (eC (.int 0)))) (eVar 10) (CS f ins most sl rs bits s7 s12 s13 s14 s15 s16)
    = some (.val (.lst ((natD ys).map T.fr)), CS f' ins most sl rs bits s7 s12 s13 s14 s15 s16) := by
  let S : MS → Prop := fun ρ => ∃ (f : Feed) (s10 : Sl), f.ok ∧ ρ = (CS f ins most sl rs bits s7 s12 s13 s14 s15 s16).set 10 s10
  obtain ⟨ys, ρ', h1, h2, f', s10, hf', rfl⟩ := lcM_st (src := srcR rng1 (aCons (eVar 6) (aNil))) (vs := [10]) (m := gNm 10) (c := cOf (bin true opEq (eFnL f__law_draw (lHere true (eVar 0) (aCons (eC (.int 2)) (aNil)))) (eC (.int 0)))) (e := eVar 10) (ρ := CS f ins most sl rs bits s7 s12 s13 s14 s15 s16) (ρ1 := CS f ins most sl rs bits s7 s12 s13 s14 s15 s16) S (List.range bits)
    (srcR_eq (ds := [.int (bits : Nat)]) rfl (rng1_nat (by omega))) (by rw [List.length_range, sizeLine_eq]; omega) ⟨f, .non, hf, rfl⟩ (fun k hk ρ hS => by
      obtain ⟨f1, s10, hf1, rfl⟩ := hS
      obtain ⟨f2, told, hf2, h0, h3, hd⟩ := draw_var hf1 (i := 0) (s := .pin f1.tree) (q := true) (many := 2) (ρ := (CS f1 ins most sl rs bits s7 s12 s13 s14 s15 s16).set 10 (ow (.int (k : Nat)))) (ρ1 := (CS f1 ins most sl rs bits s7 s12 s13 s14 s15 s16).set 10 (ow (.int (k : Nat)))) (gs := aCons (eC (.int 2)) aNil) rfl (.inr rfl) rfl rfl (by omega) (by omega)
      exact ⟨(CS f1 ins most sl rs bits s7 s12 s13 s14 s15 s16).set 10 (ow (.int (k : Nat))), decide (told = 0), (CS f2 ins most sl rs bits s7 s12 s13 s14 s15 s16).set 10 (ow (.int (k : Nat))), rfl, cOf_eq (bin_eq hd rfl rfl rfl rfl (eq_int _ _)) rfl, fun _ => rfl, f2, _, hf2, rfl⟩) rfl
  refine ⟨f', ys, hf', ?_, h1⟩
  have := h2.length_le
  rw [List.length_range] at this
  omega
end K71

namespace K71
open PySem PySem.Spec PyProof.Rows L2 DL
variable {f f' : Feed} {ins most : Int} {sl : List Nat} {rs : List Row} {bits t a b : Nat} {s7 s12 s13 s14 s15 s16 : Sl} {q : Bool} {e : DL.M DL.R} {r : Row}
theorem xyz_str {k : Nat} (h : k < 3) : ∃ x : Str, opIx (.fr (.str "XYZ")) (.fr (.int (k : Nat))) = some (.fr (.str x)) ∧ PyData.canLay0 (.str x) = true := by
  match k, h with
  | 0, _ => exact ⟨_, rfl, by decide +kernel⟩
  | 1, _ => exact ⟨_, rfl, by decide +kernel⟩
  | 2, _ => exact ⟨_, rfl, by decide +kernel⟩
theorem tup4_fz {g1 g2 g3 g4 : DL.M DL.R} {ρ ρ1 ρ2 ρ3 ρ4 : MS} {d1 d2 d3 d4 : PyData} (h1 : fz g1 ρ = some (d1, ρ1)) (h2 : fz g2 ρ1 = some (d2, ρ2)) (h3 : fz g3 ρ2 = some (d3, ρ3)) (h4 : fz g4 ρ3 = some (d4, ρ4)) : fz (eTup (aCons g1 (aCons g2 (aCons g3 (aCons g4 aNil))))) ρ = some (.tuple [d1, d2, d3, d4], ρ4) := by
  have ha : aCons g1 (aCons g2 (aCons g3 (aCons g4 aNil))) ρ = some ([d1, d2, d3, d4], ρ4) := aCons_fz h1 (aCons_fz h2 (aCons_fz h3 (aCons_fz h4 rfl)))
  have hb : eTup (aCons g1 (aCons g2 (aCons g3 (aCons g4 aNil)))) ρ = some (.val (.fr (.tuple [d1, d2, d3, d4])), ρ4) := by
    show ((aCons g1 (aCons g2 (aCons g3 (aCons g4 aNil))) ρ).bind _) = _
    rw [ha]; rfl
  exact fz_eq hb rfl
end K71

namespace K71
open PySem PySem.Spec PyProof.Rows L2 DL
variable {f f' : Feed} {ins most : Int} {sl : List Nat} {rs : List Row} {bits t a b : Nat} {s7 s12 s13 s14 s15 s15' s16 : Sl} {q : Bool} {e : DL.M DL.R} {r : Row}
theorem append_row15 (h : fz e (CS f ins most sl rs bits s7 s12 s13 s14 s15 s16) = some (r.enc, CS f' ins most sl rs bits s7 s12 s13 s14 s15' s16)) (hl : rs.length ≤ 100) :
    sExpr (mutM "list" q lAppend (eVar 5) (bConsF e bNil)) (CS f ins most sl rs bits s7 s12 s13 s14 s15 s16) = some (.nx, CS f' ins most sl (rs ++ [r]) bits s7 s12 s13 s14 s15' s16) := by
  have hb : bConsF e bNil (CS f ins most sl rs bits s7 s12 s13 s14 s15 s16) = some ([.fr r.enc], CS f' ins most sl rs bits s7 s12 s13 s14 s15' s16) := by
    have e0 : ∀ g : DL.M DL.R, ∀ ρ, bConsF g bNil ρ = (fz g ρ).bind fun x => (bNil x.2).map fun y => (.fr x.1 :: y.1, y.2) := fun _ _ => rfl
    rw [e0, h]; rfl
  have ha := append_eq (q := q) (g := eVar 5) (i := 5) (s := rowsS rs) (t0 := .lst ((rs.map Row.enc).map T.fr)) (ρ := CS f ins most sl rs bits s7 s12 s13 s14 s15 s16) rfl rfl rfl hb rfl rfl (by rw [List.length_map, List.length_map, sizeLine_eq]; omega)
  have e4 : (rs.map Row.enc).map T.fr ++ [T.fr r.enc] = ((rs ++ [r]).map Row.enc).map T.fr := by
    rw [List.map_append, List.map_append]; rfl
  rw [e4] at ha
  exact sExpr_eq ha
end K71

namespace K71
open PySem PySem.Spec PyProof.Rows L2 DL
variable {f f' : Feed} {ins most : Int} {sl : List Nat} {rs : List Row} {bits t a b : Nat} {s7 s12 s13 s14 s15 s15' s16 : Sl} {q : Bool} {e : DL.M DL.R} {r : Row}
theorem len_told {ys : List Nat} : un opLen (eVar 15) (CS f ins most sl rs bits s7 s12 s13 s14 (owl ys) s16) = some (.val (.fr (.int (ys.length : Nat))), CS f ins most sl rs bits s7 s12 s13 s14 (owl ys) s16) := by
  refine un_eq (x := .bor 15 []) (t := .lst ((natD ys).map T.fr)) rfl rfl ?_
  show some (T.fr (.int ((((natD ys).map T.fr).length : Nat) : Int))) = _
  rw [List.length_map, natD_len]
theorem d_fix (hf : f.ok) (hb0 : 0 < bits) (hb : bits ≤ 4) (hr : rs.length ≤ 100) (h15 : Fr4 s15) : ∃ (f' : Feed) (r : Row) (s15' : Sl), f'.ok ∧ RowOk r ∧ Fr4 s15' ∧
    sSeq (sSet 15 (lcM (srcR rng1 (aCons (eVar 6) (aNil))) [10] (gNm 10) (cOf (bin true opEq (eFnL f__law_draw (lHere true (eVar 0) (aCons (eC (.int 2)) (aNil)))) (eC (.int 0)))) (eVar 10)))
  (sSeq (sIf (cOf (bin true opEq (un opLen (eVar 15)) (eC (.int 0)))) (sSet 15 (eLst (aCons (eFnL f__law_draw (lHere true (eVar 0) (aCons (eVar 6) (aNil)))) (aNil)))) (sNx))
  (sExpr (mutM "list" false lAppend (eVar 5) (bConsF (eTup (aCons (eC (.str "fix")) (aCons (subs false opIx (eC (.str "XYZ")) (eFnL f__law_draw (lHere true (eVar 0) (aCons (eC (.int 3)) (aNil))))) (aCons (eVar 14) (aCons (eVar 15) (aNil)))))) (bNil)))))
    (CS f ins most sl rs bits s7 s12 s13 (ow (.int (a : Nat))) s15 s16) = some (.nx, CS f' ins most sl (rs ++ [r]) bits s7 s12 s13 (ow (.int (a : Nat))) s15' s16) := by
  obtain ⟨f1, ys, hf1, hys, h1⟩ := some_bits (f := f) (ins := ins) (most := most) (sl := sl) (rs := rs) (bits := bits) (s7 := s7) (s12 := s12) (s13 := s13) (s14 := ow (.int (a : Nat))) (s15 := s15) (s16 := s16) hf hb
  have t1 : sSet 15 _ (CS f ins most sl rs bits s7 s12 s13 (ow (.int (a : Nat))) s15 s16) = some (.nx, CS f1 ins most sl rs bits s7 s12 s13 (ow (.int (a : Nat))) (owl ys) s16) := sSet_val (i := 15) (ρ1 := CS f1 ins most sl rs bits s7 s12 s13 (ow (.int (a : Nat))) s15 s16) h1 (by rcases h15 with rfl | ⟨d, rfl⟩ <;> rfl)
  have t2 : ∃ (f2 : Feed) (zs : List Nat), f2.ok ∧ sIf (cOf (bin true opEq (un opLen (eVar 15)) (eC (.int 0)))) (sSet 15 (eLst (aCons (eFnL f__law_draw (lHere true (eVar 0) (aCons (eVar 6) (aNil)))) (aNil)))) (sNx) (CS f1 ins most sl rs bits s7 s12 s13 (ow (.int (a : Nat))) (owl ys) s16) = some (.nx, CS f2 ins most sl rs bits s7 s12 s13 (ow (.int (a : Nat))) (owl zs) s16) := by
    have c1 := cOf_eq (bin_eq (q := true) (gb := eC (.int 0)) (len_told (f := f1) (ins := ins) (most := most) (sl := sl) (rs := rs) (bits := bits) (s7 := s7) (s12 := s12) (s13 := s13) (s14 := ow (.int (a : Nat))) (s16 := s16) (ys := ys)) rfl rfl rfl rfl (eq_int _ _)) rfl
    cases hc : decide (((ys.length : Nat) : Int) = 0) with
    | false => exact ⟨f1, ys, hf1, sIf_eq c1 (by rw [hc]; rfl)⟩
    | true =>
      obtain ⟨f2, told, hf2, ht, hd⟩ := draw_c (ins := ins) (most := most) (sl := sl) (rs := rs) (bits := bits) (s7 := s7) (s12 := s12) (s13 := s13) (s14 := ow (.int (a : Nat))) (s15 := owl ys) (s16 := s16) hf1 bits hb0 (by omega) (q := true) (gs := aCons (eVar 6) aNil) rfl
      have hl : eLst (aCons (eFnL f__law_draw (lHere true (eVar 0) (aCons (eVar 6) (aNil)))) aNil) (CS f1 ins most sl rs bits s7 s12 s13 (ow (.int (a : Nat))) (owl ys) s16) = some (.val (.lst ((natD [told]).map T.fr)), CS f2 ins most sl rs bits s7 s12 s13 (ow (.int (a : Nat))) (owl ys) s16) := by
        show ((aCons _ _ _).bind _) = _
        rw [aCons_fz (fz_eq hd rfl) rfl]
        rfl
      exact ⟨f2, [told], hf2, sIf_eq c1 (by rw [hc, if_pos rfl]; exact sSet_val (i := 15) (ρ1 := CS f2 ins most sl rs bits s7 s12 s13 (ow (.int (a : Nat))) (owl ys) s16) hl rfl)⟩
  obtain ⟨f2, zs, hf2, t2⟩ := t2
  obtain ⟨f3, told, hf3, ht, hd⟩ := draw_c (ins := ins) (most := most) (sl := sl) (rs := rs) (bits := bits) (s7 := s7) (s12 := s12) (s13 := s13) (s14 := ow (.int (a : Nat))) (s15 := owl zs) (s16 := s16) hf2 3 (by omega) (by omega) (q := true) (gs := aCons (eC (.int 3)) aNil) rfl
  obtain ⟨x, hx, hlx⟩ := xyz_str ht
  have p := subs_val (q := false) (f := opIx) (ga := eC (.str "XYZ")) rfl hd rfl hx
  have hz : fz (eVar 15) (CS f3 ins most sl rs bits s7 s12 s13 (ow (.int (a : Nat))) (owl zs) s16) = some (.list (natD zs), CS f3 ins most sl rs bits s7 s12 s13 (ow (.int (a : Nat))) (ow (.list (natD zs))) s16) := (show DS (owl zs) (natD zs) from .inl rfl).frz (i := 15) rfl
  have hrow : (Row.fix x (a : Int) (zs.map fun (k : Nat) => (k : Int))).enc = .tuple [.str "fix", .str x, .int (a : Nat), .list (natD zs)] := by rw [natD_int]; rfl
  refine ⟨f3, .fix x (a : Int) (zs.map fun (k : Nat) => (k : Int)), ow (.list (natD zs)), hf3, row_fix a _ hlx, .inr ⟨_, rfl⟩, sSeq_eq t1 (sSeq_eq t2 (append_row15 ?_ hr))⟩
  rw [hrow]
  exact tup4_fz (ρ1 := CS f2 ins most sl rs bits s7 s12 s13 (ow (.int (a : Nat))) (owl zs) s16) rfl (fz_eq p rfl) rfl hz
end K71

namespace K71
open PySem PySem.Spec PyProof.Rows L2 DL
variable {f f' : Feed} {ins most : Int} {sl : List Nat} {rs : List Row} {bits t a b : Nat} {s7 s12 s13 s14 s15 s15' s16 : Sl} {q : Bool} {e : DL.M DL.R} {r : Row}
/-- one turn behind the draw of a slot -/
theorem others_nd (h : sl.Nodup) : (others sl a).Nodup := h.filter _
theorem each_snoc (h : ∀ r ∈ rs, RowOk r) (hr : RowOk r) : ∀ x ∈ rs ++ [r], RowOk x := fun x hx => by
  rcases List.mem_append.mp hx with hx | hx
  · exact h x hx
  · have : x = r := by simpa using hx
    rw [this]; exact hr
end K71

namespace K71
open PySem PySem.Spec PyProof.Rows L2 DL
variable {f f' : Feed} {ins most : Int} {sl : List Nat} {rs : List Row} {bits t a b kd : Nat} {s7 s12 s13 s14 s15 s15' s16 : Sl} {q : Bool} {e : DL.M DL.R} {r : Row}
def mRead : M Fl := sSeq (sExpr (mutM "list" true lAppend (eVar 5) (bConsF (eTup (aCons (eC (.str "read")) (aCons (eVar 14) (aCons (eVar 6) (aNil))))) (bNil))))
  (sSeq (sAug 6 opAddI (eC (.int 1)))
  (sSet 4 (lcM (srcV T.asList (eVar 4)) [10] (gNm 10) (cOf (bin true opNe (eVar 10) (eVar 14))) (eVar 10))))
def mFix : M Fl := sSeq (sSet 15 (lcM (srcR rng1 (aCons (eVar 6) (aNil))) [10] (gNm 10) (cOf (bin true opEq (eFnL f__law_draw (lHere true (eVar 0) (aCons (eC (.int 2)) (aNil)))) (eC (.int 0)))) (eVar 10)))
  (sSeq (sIf (cOf (bin true opEq (un opLen (eVar 15)) (eC (.int 0)))) (sSet 15 (eLst (aCons (eFnL f__law_draw (lHere true (eVar 0) (aCons (eVar 6) (aNil)))) (aNil)))) (sNx))
  (sExpr (mutM "list" false lAppend (eVar 5) (bConsF (eTup (aCons (eC (.str "fix")) (aCons (subs false opIx (eC (.str "XYZ")) (eFnL f__law_draw (lHere true (eVar 0) (aCons (eC (.int 3)) (aNil))))) (aCons (eVar 14) (aCons (eVar 15) (aNil)))))) (bNil)))))
def mTwo : M Fl := sSeq (sSet 16 (subs false opIx (lcM (srcV T.asList (eVar 4)) [10] (gNm 10) (cOf (bin true opNe (eVar 10) (eVar 14))) (eVar 10)) (eFnL f__law_draw (lHere true (eVar 0) (aCons (bin true opSub (un opLen (eVar 4)) (eC (.int 1))) (aNil))))))
  (sExpr (mutM "list" false lAppend (eVar 5) (bConsF (eTup (aCons (eC (.str "turn")) (aCons (subs false opIx (eLst (aCons (eC (.str "cx")) (aCons (eC (.str "cz")) (aCons (eC (.str "sw")) (aNil))))) (eFnL f__law_draw (lHere true (eVar 0) (aCons (eC (.int 3)) (aNil))))) (aCons (eLst (aCons (eVar 14) (aCons (eVar 16) (aNil)))) (aNil))))) (bNil))))
def mOne : M Fl := sExpr (mutM "list" false lAppend (eVar 5) (bConsF (eTup (aCons (eC (.str "turn")) (aCons (subs false opIx (eLst (aCons (eC (.str "h")) (aCons (eC (.str "s")) (aCons (eC (.str "h")) (aCons (eC (.str "r")) (aCons (eC (.str "x")) (aCons (eC (.str "y")) (aCons (eC (.str "z")) (aNil))))))))) (eFnL f__law_draw (lHere true (eVar 0) (aCons (eC (.int 7)) (aNil))))) (aCons (eLst (aCons (eVar 14) (aNil))) (aNil))))) (bNil)))
end K71

namespace K71
open PySem PySem.Spec PyProof.Rows L2 DL
variable {f f' : Feed} {ins most : Int} {sl : List Nat} {rs : List Row} {bits t a b kd : Nat} {s7 s12 s13 s14 s15 s15' s16 : Sl} {q : Bool} {e : DL.M DL.R} {r : Row}
theorem c_and {c1 c2 : DL.M Bool} {ρ : MS} {x y : Bool} (h1 : c1 ρ = some (x, ρ)) (h2 : c2 ρ = some (y, ρ)) : cAnd c1 c2 ρ = some (x && y, ρ) := by
  refine cAnd_eq h1 ?_
  cases x with
  | true => exact h2
  | false => rfl
theorem d_all (I : CI f sl rs bits t) (ht : t ≤ 100) (ha : a ∈ sl) (h15 : Fr4 s15) (h16 : Fre s16) : ∃ (f' : Feed) (sl' : List Nat) (rs' : List Row) (bits' : Nat) (s15' s16' : Sl), CI f' sl' rs' bits' (t + 1) ∧ Fr4 s15' ∧ Fre s16' ∧
    sIf (cAnd (cOf (bin true opEq (eVar 12) (eC (.int 1)))) (cOf (bin true opLt (eVar 6) (eC (.int 4))))) mRead (sIf (cAnd (cOf (bin true opEq (eVar 12) (eC (.int 2)))) (cOf (bin true opGt (eVar 6) (eC (.int 0))))) mFix (sIf (cAnd (cOf (bin true opGt (eVar 12) (eC (.int 6)))) (cOf (bin true opGt (un opLen (eVar 4)) (eC (.int 1))))) mTwo mOne))
      (CS f ins most sl rs bits s7 (ow (.int (kd : Nat))) s13 (ow (.int (a : Nat))) s15 s16) = some (.nx, CS f' ins most sl' rs' bits' s7 (ow (.int (kd : Nat))) s13 (ow (.int (a : Nat))) s15' s16') := by
  obtain ⟨i1, i2, i3, i4, i5, i6⟩ := I
  let ρ := CS f ins most sl rs bits s7 (ow (.int (kd : Nat))) s13 (ow (.int (a : Nat))) s15 s16
  have c1 : cAnd (cOf (bin true opEq (eVar 12) (eC (.int 1)))) (cOf (bin true opLt (eVar 6) (eC (.int 4)))) ρ = some (decide (((kd : Nat) : Int) = 1) && decide (((bits : Nat) : Int) < 4), ρ) :=
    c_and (cOf_eq (bin_eq rfl rfl rfl rfl rfl (eq_int _ _)) rfl) (cOf_eq (bin_eq rfl rfl rfl rfl rfl (DL.lt_int _ _)) rfl)
  have c2 : cAnd (cOf (bin true opEq (eVar 12) (eC (.int 2)))) (cOf (bin true opGt (eVar 6) (eC (.int 0)))) ρ = some (decide (((kd : Nat) : Int) = 2) && decide (0 < ((bits : Nat) : Int)), ρ) :=
    c_and (cOf_eq (bin_eq rfl rfl rfl rfl rfl (eq_int _ _)) rfl) (cOf_eq (bin_eq rfl rfl rfl rfl rfl (DL.gt_int _ _)) rfl)
  have c3 : cAnd (cOf (bin true opGt (eVar 12) (eC (.int 6)))) (cOf (bin true opGt (un opLen (eVar 4)) (eC (.int 1)))) ρ = some (decide (6 < ((kd : Nat) : Int)) && decide (1 < ((sl.length : Nat) : Int)), ρ) :=
    c_and (cOf_eq (bin_eq rfl rfl rfl rfl rfl (DL.gt_int _ _)) rfl) (cOf_eq (bin_eq len_slots rfl rfl rfl rfl (DL.gt_int _ _)) rfl)
  cases h1 : decide (((kd : Nat) : Int) = 1) && decide (((bits : Nat) : Int) < 4) with
  | true =>
    rw [Bool.and_eq_true, decide_eq_true_eq, decide_eq_true_eq] at h1
    refine ⟨f, others sl a, rs ++ [.read a bits], bits + 1, s15, s16, ⟨i1, others_nd i2, Nat.le_trans (List.length_filter_le _ _) i3, by omega, by rw [List.length_append]; simp; omega, each_snoc i6 (row_read a bits)⟩, h15, h16, sIf_eq c1 ?_⟩
    rw [decide_eq_true h1.1, decide_eq_true h1.2]
    exact d_read (by omega) (by omega)
  | false =>
    cases h2 : decide (((kd : Nat) : Int) = 2) && decide (0 < ((bits : Nat) : Int)) with
    | true =>
      have h2' := h2
      rw [Bool.and_eq_true, decide_eq_true_eq, decide_eq_true_eq] at h2'
      obtain ⟨f', r, s15', g1, g2, g3, g4⟩ := d_fix (f := f) (ins := ins) (most := most) (sl := sl) (rs := rs) (bits := bits) (s7 := s7) (s12 := ow (.int (kd : Nat))) (s13 := s13) (a := a) (s16 := s16) i1 (by omega) i4 (by omega) h15
      exact ⟨f', sl, rs ++ [r], bits, s15', s16, ⟨g1, i2, i3, i4, by rw [List.length_append]; simp; omega, each_snoc i6 g2⟩, g3, h16, sIf_eq c1 (by rw [h1, if_neg Bool.false_ne_true]; exact sIf_eq c2 (by rw [h2, if_pos rfl]; exact g4))⟩
    | false =>
      cases h3 : decide (6 < ((kd : Nat) : Int)) && decide (1 < ((sl.length : Nat) : Int)) with
      | true =>
        have h3' := h3
        rw [Bool.and_eq_true, decide_eq_true_eq, decide_eq_true_eq] at h3'
        obtain ⟨f', r, s16', g1, g2, g3, g4⟩ := d_two (f := f) (ins := ins) (most := most) (sl := sl) (rs := rs) (bits := bits) (s7 := s7) (s12 := ow (.int (kd : Nat))) (s13 := s13) (a := a) (s15 := s15) i1 i3 (by omega) i2 ha (by omega) h16
        exact ⟨f', sl, rs ++ [r], bits, s15, s16', ⟨g1, i2, i3, i4, by rw [List.length_append]; simp; omega, each_snoc i6 g2⟩, h15, g3, sIf_eq c1 (by rw [h1, if_neg Bool.false_ne_true]; exact sIf_eq c2 (by rw [h2, if_neg Bool.false_ne_true]; exact sIf_eq c3 (by rw [h3, if_pos rfl]; exact g4)))⟩
      | false =>
        obtain ⟨f', r, g1, g2, g4⟩ := d_one (f := f) (ins := ins) (most := most) (sl := sl) (rs := rs) (bits := bits) (s7 := s7) (s12 := ow (.int (kd : Nat))) (s13 := s13) (a := a) (s15 := s15) (s16 := s16) i1 (by omega)
        exact ⟨f', sl, rs ++ [r], bits, s15, s16, ⟨g1, i2, i3, i4, by rw [List.length_append]; simp; omega, each_snoc i6 g2⟩, h15, h16, sIf_eq c1 (by rw [h1, if_neg Bool.false_ne_true]; exact sIf_eq c2 (by rw [h2, if_neg Bool.false_ne_true]; exact sIf_eq c3 (by rw [h3, if_neg Bool.false_ne_true]; exact g4)))⟩
end K71

namespace K71
open PySem PySem.Spec PyProof.Rows L2 DL
variable {f f' : Feed} {ins most : Int} {sl : List Nat} {rs : List Row} {bits t a b kd : Nat} {s7 s12 s13 s14 s15 s15' s16 : Sl}
def mNew : M Fl := sSeq (sSet 14 (subs false opIx (eVar 13) (eFnL f__law_draw (lHere true (eVar 0) (aCons (un opLen (eVar 13)) (aNil))))))
  (sSeq (sExpr (mutM "list" true lAppend (eVar 5) (bConsF (eTup (aCons (eC (.str "new")) (aCons (eVar 14) (aNil)))) (bNil))))
    (sSet 4 (un opSorted (bin true opAdd (eVar 4) (eLst (aCons (eVar 14) (aNil)))))))
def mOld : M Fl := sSeq (sSet 14 (subs false opIx (eVar 4) (eFnL f__law_draw (lHere true (eVar 0) (aCons (un opLen (eVar 4)) (aNil))))))
  (sIf (cAnd (cOf (bin true opEq (eVar 12) (eC (.int 1)))) (cOf (bin true opLt (eVar 6) (eC (.int 4))))) mRead (sIf (cAnd (cOf (bin true opEq (eVar 12) (eC (.int 2)))) (cOf (bin true opGt (eVar 6) (eC (.int 0))))) mFix (sIf (cAnd (cOf (bin true opGt (eVar 12) (eC (.int 6)))) (cOf (bin true opGt (un opLen (eVar 4)) (eC (.int 1))))) mTwo mOne)))
end K71

namespace K71
open PySem PySem.Spec PyProof.Rows L2 DL
variable {f f' : Feed} {ins most : Int} {sl : List Nat} {rs : List Row} {bits t a b kd : Nat} {s7 s12 s13 s14 s15 s15' s16 : Sl}
theorem old_ok (I : CI f sl rs bits t) (ht : t ≤ 100) (h0 : 0 < sl.length) (h14 : Fre s14) (h15 : Fr4 s15) (h16 : Fre s16) : ∃ (f' : Feed) (sl' : List Nat) (rs' : List Row) (bits' : Nat) (s14' s15' s16' : Sl), CI f' sl' rs' bits' (t + 1) ∧ Fre s14' ∧ Fr4 s15' ∧ Fre s16' ∧
    mOld (CS f ins most sl rs bits s7 (ow (.int (kd : Nat))) s13 s14 s15 s16) = some (.nx, CS f' ins most sl' rs' bits' s7 (ow (.int (kd : Nat))) s13 s14' s15' s16') := by
  obtain ⟨f1, told, hf1, hto, hd⟩ := draw_c (ins := ins) (most := most) (sl := sl) (rs := rs) (bits := bits) (s7 := s7) (s12 := ow (.int (kd : Nat))) (s13 := s13) (s14 := s14) (s15 := s15) (s16 := s16) I.f sl.length h0 (by have := I.len; omega) (q := true) (gs := aCons (un opLen (eVar 4)) aNil) (aCons_eq len_slots rfl rfl)
  have p := pick_v (q := false) (i := 4) (xs := sl) rfl rfl hd hto
  obtain ⟨f2, sl', rs', bits', s15', s16', g1, g2, g3, g4⟩ := d_all (f := f1) (ins := ins) (most := most) (sl := sl) (rs := rs) (bits := bits) (t := t) (a := sl[told]) (kd := kd) (s7 := s7) (s13 := s13) (s15 := s15) (s16 := s16) ⟨hf1, I.nd, I.len, I.bits, I.rows, I.each⟩ ht (List.getElem_mem _) h15 h16
  exact ⟨f2, sl', rs', bits', _, s15', s16', g1, .inr ⟨_, rfl⟩, g2, g3, sSeq_eq (sSet_val (i := 14) (ρ1 := CS f1 ins most sl rs bits s7 (ow (.int (kd : Nat))) s13 s14 s15 s16) p (by rcases h14 with rfl | ⟨d, rfl⟩ <;> rfl)) g4⟩
end K71

namespace K71
open PySem PySem.Spec PyProof.Rows L2 DL
variable {f f' : Feed} {ins most : Int} {sl : List Nat} {rs : List Row} {bits t a b kd : Nat} {s7 s12 s13 s14 s15 s15' s16 : Sl}
def mTurn : M Fl := sSeq (sSet 12 (eFnL f__law_draw (lHere true (eVar 0) (aCons (eC (.int 10)) (aNil)))))
  (sSeq (sSet 13 (lcM (srcR rng1 (aCons (eC (.int 6)) (aNil))) [10] (gNm 10) (cOf (bin true opNotIn (eVar 10) (eVar 4))) (eVar 10)))
  (sIf (cAnd (cOr (cOf (bin true opEq (eVar 12) (eC (.int 0)))) (cOf (bin true opEq (un opLen (eVar 4)) (eC (.int 0))))) (cOf (bin true opLt (un opLen (eVar 4)) (eVar 2)))) mNew (sIf (cOf (bin true opGt (un opLen (eVar 4)) (eC (.int 0)))) mOld sNx)))
theorem turn_core (I : CI f sl rs bits t) (ht : t ≤ 100) (h12 : Fre s12) (h13 : Fr4 s13) (h14 : Fre s14) (h15 : Fr4 s15) (h16 : Fre s16) : ∃ (f' : Feed) (sl' : List Nat) (rs' : List Row) (bits' : Nat) (s12' s13' s14' s15' s16' : Sl), CI f' sl' rs' bits' (t + 1) ∧ Fre s12' ∧ Fr4 s13' ∧ Fre s14' ∧ Fr4 s15' ∧ Fre s16' ∧
    mTurn (CS f ins most sl rs bits s7 s12 s13 s14 s15 s16) = some (.nx, CS f' ins most sl' rs' bits' s7 s12' s13' s14' s15' s16') := by
  obtain ⟨f1, kd, hf1, _, hd⟩ := draw_c (ins := ins) (most := most) (sl := sl) (rs := rs) (bits := bits) (s7 := s7) (s12 := s12) (s13 := s13) (s14 := s14) (s15 := s15) (s16 := s16) I.f 10 (by omega) (by omega) (q := true) (gs := aCons (eC (.int 10)) aNil) rfl
  have t1 : sSet 12 _ (CS f ins most sl rs bits s7 s12 s13 s14 s15 s16) = some (.nx, CS f1 ins most sl rs bits s7 (ow (.int (kd : Nat))) s13 s14 s15 s16) := sSet_val (i := 12) (ρ1 := CS f1 ins most sl rs bits s7 s12 s13 s14 s15 s16) hd (by rcases h12 with rfl | ⟨d, rfl⟩ <;> rfl)
  have t2 : sSet 13 _ (CS f1 ins most sl rs bits s7 (ow (.int (kd : Nat))) s13 s14 s15 s16) = some (.nx, CS f1 ins most sl rs bits s7 (ow (.int (kd : Nat))) (owl (freeOf sl)) s14 s15 s16) := sSet_val (i := 13) (ρ1 := CS f1 ins most sl rs bits s7 (ow (.int (kd : Nat))) s13 s14 s15 s16) free_ok (by rcases h13 with rfl | ⟨d, rfl⟩ <;> rfl)
  let ρ := CS f1 ins most sl rs bits s7 (ow (.int (kd : Nat))) (owl (freeOf sl)) s14 s15 s16
  have I1 : CI f1 sl rs bits t := ⟨hf1, I.nd, I.len, I.bits, I.rows, I.each⟩
  have l4 := len_slots (f := f1) (ins := ins) (most := most) (sl := sl) (rs := rs) (bits := bits) (s7 := s7) (s12 := ow (.int (kd : Nat))) (s13 := owl (freeOf sl)) (s14 := s14) (s15 := s15) (s16 := s16)
  have q1 : cOf (bin true opEq (eVar 12) (eC (.int 0))) ρ = some (decide (((kd : Nat) : Int) = 0), ρ) := cOf_eq (bin_eq rfl rfl rfl rfl rfl (eq_int _ _)) rfl
  have q2 : cOf (bin true opEq (un opLen (eVar 4)) (eC (.int 0))) ρ = some (decide (((sl.length : Nat) : Int) = 0), ρ) := cOf_eq (bin_eq l4 rfl rfl rfl rfl (eq_int _ _)) rfl
  have q3 : cOf (bin true opLt (un opLen (eVar 4)) (eVar 2)) ρ = some (decide (((sl.length : Nat) : Int) < 4), ρ) := cOf_eq (bin_eq l4 rfl rfl rfl rfl (DL.lt_int _ _)) rfl
  have q4 : cOf (bin true opGt (un opLen (eVar 4)) (eC (.int 0))) ρ = some (decide (0 < ((sl.length : Nat) : Int)), ρ) := cOf_eq (bin_eq l4 rfl rfl rfl rfl (DL.gt_int _ _)) rfl
  have q12 : cOr (cOf (bin true opEq (eVar 12) (eC (.int 0)))) (cOf (bin true opEq (un opLen (eVar 4)) (eC (.int 0)))) ρ = some (decide (((kd : Nat) : Int) = 0) || decide (((sl.length : Nat) : Int) = 0), ρ) := by
    refine cOr_eq q1 ?_
    cases decide (((kd : Nat) : Int) = 0) with
    | true => rfl
    | false => exact q2
  have cc := c_and q12 q3
  cases hv : (decide (((kd : Nat) : Int) = 0) || decide (((sl.length : Nat) : Int) = 0)) && decide (((sl.length : Nat) : Int) < 4) with
  | true =>
    have hl : sl.length ≤ 3 := by
      rw [Bool.and_eq_true, decide_eq_true_eq] at hv
      omega
    obtain ⟨f2, sl', a, g1, g2, g3, g4⟩ := d_new (f := f1) (ins := ins) (most := most) (sl := sl) (rs := rs) (bits := bits) (s7 := s7) (s12 := ow (.int (kd : Nat))) (s14 := s14) (s15 := s15) (s16 := s16) hf1 hl I.nd (by have := I.rows; omega) h14
    exact ⟨f2, sl', rs ++ [.new a], bits, _, _, _, s15, s16, ⟨g1, g2, g3, I.bits, by rw [List.length_append]; have := I.rows; simp; omega, each_snoc I.each (row_new a)⟩, .inr ⟨_, rfl⟩, .inr ⟨_, rfl⟩, .inr ⟨_, rfl⟩, h15, h16, sSeq_eq t1 (sSeq_eq t2 (sIf_eq cc (by rw [hv, if_pos rfl]; exact g4)))⟩
  | false =>
    cases hz : decide (0 < ((sl.length : Nat) : Int)) with
    | true =>
      obtain ⟨f2, sl', rs', bits', s14', s15', s16', g1, g2, g3, g4, g5⟩ := old_ok (ins := ins) (most := most) (kd := kd) (s7 := s7) (s13 := owl (freeOf sl)) I1 ht (by have := of_decide_eq_true hz; omega) h14 h15 h16
      exact ⟨f2, sl', rs', bits', _, _, s14', s15', s16', g1, .inr ⟨_, rfl⟩, .inr ⟨_, rfl⟩, g2, g3, g4, sSeq_eq t1 (sSeq_eq t2 (sIf_eq cc (by rw [hv, if_neg Bool.false_ne_true]; exact sIf_eq q4 (by rw [hz, if_pos rfl]; exact g5))))⟩
    | false =>
      exact ⟨f1, sl, rs, bits, _, _, s14, s15, s16, ⟨hf1, I.nd, I.len, I.bits, by have := I.rows; omega, I.each⟩, .inr ⟨_, rfl⟩, .inr ⟨_, rfl⟩, h14, h15, h16, sSeq_eq t1 (sSeq_eq t2 (sIf_eq cc (by rw [hv, if_neg Bool.false_ne_true]; exact sIf_eq q4 (by rw [hz, if_neg Bool.false_ne_true]; rfl))))⟩
end K71

namespace DL
open PySem PySem.Spec PyProof.Rows L2
theorem pop_eq {g : M R} {gs : M (List T)} {q : Bool} {ρ ρ1 ρ2 : MS} {i k : Nat} {s : Sl} {ts : List T} {t0 : T} (h1 : g ρ = some (.bor i [], ρ1)) (l0 : look ρ1 (.bor i []) = some t0) (ty : tyT "list" t0 = true) (h2 : gs ρ1 = some ([.fr (.int (k : Nat))], ρ2)) (hs : ρ2[i]? = some s) (ht : s.tree? = some (.lst ts)) (hk : k < ts.length) (hb : ts.length ≤ 1000) :
    mutM "list" q lPop g gs ρ = some (.val ts[k], ρ2.set i (s.with (.lst (ts.eraseIdx k)))) := by
  have e0 : mutM "list" q lPop g gs ρ = (g ρ).bind fun x => (look x.2 x.1).bind fun t0 => if tyT "list" t0 = true then
    (gs x.2).bind fun y => match x.1 with
      | .bor i p => if (R.bor i p).waits q = true then y.2[i]?.bind fun s => s.tree?.bind fun t => (t.get p).bind fun u => (lPop u y.1).map fun r => (.val r.2, y.2.set i (s.with (t.put p r.1))) else none
      | .val _ => none else none := rfl
  rw [e0, h1, Option.bind_some]
  show (look ρ1 (.bor i [])).bind _ = _
  rw [l0, Option.bind_some, if_pos ty]
  show (gs ρ1).bind _ = _
  rw [h2, Option.bind_some]
  show (if (R.bor i []).waits q = true then ρ2[i]?.bind fun s => s.tree?.bind fun t' => (t'.get []).bind fun u => (lPop u [.fr (.int (k : Nat))]).map fun r => (R.val r.2, ρ2.set i (s.with (t'.put [] r.1))) else none) = _
  rw [if_pos waits0, hs, Option.bind_some, ht, Option.bind_some]
  show (some (T.lst ts)).bind _ = _
  rw [Option.bind_some]
  have hp : lPop (.lst ts) [.fr (.int (k : Nat))] = some (.lst (ts.eraseIdx k), ts[k]) := by
    unfold lPop
    have hc : (decide (-(2 ^ 63) ≤ ((k : Nat) : Int)) && decide (((k : Nat) : Int) < 2 ^ 63)) = true := by
      rw [decide_eq_true (by omega), decide_eq_true (by omega)]; rfl
    have hi : seqIndex? ((k : Nat) : Int) ts.length = some k := by
      rw [seqIndex_of (by omega) (by omega)]
      simp
    show (if _ then _ else _) = _
    rw [if_pos hc, hi, Option.bind_some, List.getElem?_eq_getElem hk]
    rfl
  rw [hp]
  rfl
end DL

namespace K71
open PySem PySem.Spec PyProof.Rows L2 DL
variable {f f' : Feed} {ins most : Int} {sl : List Nat} {rs : List Row} {bits t a b kd : Nat} {s7 s8 s9 s10 s11 s12 s13 s14 s15 s15' s16 : Sl}
theorem map_erase {α β : Type} (g : α → β) : ∀ (xs : List α) (k : Nat), (xs.map g).eraseIdx k = (xs.eraseIdx k).map g
  | [], _ => rfl
  | _ :: _, 0 => rfl
  | x :: xs, k + 1 => by
    show g x :: (xs.map g).eraseIdx k = g x :: (xs.eraseIdx k).map g
    rw [map_erase g xs k]
def CE (f : Feed) (ins most : Int) (sl : List Nat) (rs : List Row) (bits : Nat) (s7 s8 s9 s10 s11 s12 s13 s14 s15 s16 : Sl) : MS :=
  [.pin f.tree, ow (.int ins), ow (.int 4), ow (.int most), owl sl, rowsS rs, ow (.int (bits : Nat)), s7, s8, s9, s10, s11, s12, s13, s14, s15, s16]
theorem draw_e (hf : f.ok) (many : Nat) (h0 : 0 < many) (hb : many < 1000000) {q : Bool} {gs : DL.M (List PyData)} (hgs : gs (CE f ins most sl rs bits s7 s8 s9 s10 s11 s12 s13 s14 s15 s16) = some ([.int (many : Nat)], CE f ins most sl rs bits s7 s8 s9 s10 s11 s12 s13 s14 s15 s16)) :
    ∃ (f' : Feed) (told : Nat), f'.ok ∧ told < many ∧ eFnL f__law_draw (lHere q (eVar 0) gs) (CE f ins most sl rs bits s7 s8 s9 s10 s11 s12 s13 s14 s15 s16) = some (.val (.fr (.int (told : Nat))), CE f' ins most sl rs bits s7 s8 s9 s10 s11 s12 s13 s14 s15 s16) := by
  obtain ⟨f', told, a, b, c, d⟩ := draw_var hf (i := 0) (s := .pin f.tree) (q := q) (many := (many : Int)) rfl (.inr rfl) rfl hgs (by omega) (by omega)
  refine ⟨f', told.toNat, a, by omega, ?_⟩
  rw [show ((told.toNat : Nat) : Int) = told by omega]
  exact d
theorem len_outs {xs : List Nat} : un opLen (eVar 8) (CE f ins most sl rs bits s7 (owl xs) s9 s10 s11 s12 s13 s14 s15 s16) = some (.val (.fr (.int (xs.length : Nat))), CE f ins most sl rs bits s7 (owl xs) s9 s10 s11 s12 s13 s14 s15 s16) := by
  refine un_eq (x := .bor 8 []) (t := .lst ((natD xs).map T.fr)) rfl rfl ?_
  show some (T.fr (.int ((((natD xs).map T.fr).length : Nat) : Int))) = _
  rw [List.length_map, natD_len]
theorem order_ok (hf : f.ok) (hl : sl.length ≤ 4) : ∃ (f' : Feed) (outs ord : List Nat) (s10' : Sl), f'.ok ∧ ord.length ≤ 4 ∧ Fre s10' ∧
    sFor (srcR rng1 (aCons (un opLen (eVar 8)) (aNil))) (gNm 10) (sExpr (mutM "list" false lAppend (eVar 9) (bConsF (mutM "list" false lPop (eVar 8) (bConsF (eFnL f__law_draw (lHere true (eVar 0) (aCons (un opLen (eVar 8)) (aNil)))) (bNil))) (bNil))))
      (CE f ins most sl rs bits s7 (owl sl) (owl []) .non .non s12 s13 s14 s15 s16) = some (.nx, CE f' ins most sl rs bits s7 (owl outs) (owl ord) s10' .non s12 s13 s14 s15 s16) := by
  let S : Nat → MS → Prop := fun j ρ => ∃ (f : Feed) (outs ord : List Nat) (s10 : Sl), f.ok ∧ outs.length + j = sl.length ∧ ord.length = j ∧ Fre s10 ∧ ρ = CE f ins most sl rs bits s7 (owl outs) (owl ord) s10 .non s12 s13 s14 s15 s16
  have hsrc : srcR rng1 (aCons (un opLen (eVar 8)) aNil) (CE f ins most sl rs bits s7 (owl sl) (owl []) .non .non s12 s13 s14 s15 s16) = some ((natD (List.range sl.length), none), CE f ins most sl rs bits s7 (owl sl) (owl []) .non .non s12 s13 s14 s15 s16) :=
    srcR_eq (ds := [.int (sl.length : Nat)]) (aCons_eq len_outs rfl rfl) (rng1_nat (by omega))
  obtain ⟨ρ', ρ3, ⟨f', outs, ord, s10, g1, g2, g3, g4, e⟩, hu, hfin⟩ := sFor_inv (m := gNm 10) (n := sExpr (mutM "list" false lAppend (eVar 9) (bConsF (mutM "list" false lPop (eVar 8) (bConsF (eFnL f__law_draw (lHere true (eVar 0) (aCons (un opLen (eVar 8)) (aNil)))) (bNil))) (bNil))))
    hsrc S ⟨f, sl, [], .non, hf, rfl, rfl, .inl rfl, rfl⟩ (fun j ρ hj hS => by
      obtain ⟨f1, outs, ord, s10, hf1, ho, hd, h10, rfl⟩ := hS
      have hj' : j < sl.length := by rw [natD_len, List.length_range] at hj; exact hj
      have el : (natD (List.range sl.length))[j]'hj = .int (j : Nat) := by rw [natD_get hj, List.getElem_range]
      let ρ1 := CE f1 ins most sl rs bits s7 (owl outs) (owl ord) (ow (.int (j : Nat))) .non s12 s13 s14 s15 s16
      obtain ⟨f2, told, hf2, ht, hdr⟩ := draw_e (ins := ins) (most := most) (sl := sl) (rs := rs) (bits := bits) (s7 := s7) (s8 := owl outs) (s9 := owl ord) (s10 := ow (.int (j : Nat))) (s11 := .non) (s12 := s12) (s13 := s13) (s14 := s14) (s15 := s15) (s16 := s16) hf1 outs.length (by omega) (by omega) (q := true) (gs := aCons (un opLen (eVar 8)) aNil) (aCons_eq len_outs rfl rfl)
      have htl : told < ((natD outs).map T.fr).length := by rw [List.length_map, natD_len]; exact ht
      have hpop := pop_eq (q := false) (g := eVar 8) (i := 8) (ρ := ρ1) (ρ1 := ρ1) (ρ2 := CE f2 ins most sl rs bits s7 (owl outs) (owl ord) (ow (.int (j : Nat))) .non s12 s13 s14 s15 s16) (s := owl outs) (ts := (natD outs).map T.fr) (t0 := .lst ((natD outs).map T.fr)) rfl rfl rfl (bConsF_one hdr) rfl rfl htl (by rw [List.length_map, natD_len]; omega)
      have e1 : ((natD outs).map T.fr)[told] = T.fr (.int (outs[told] : Nat)) := by
        rw [List.getElem_map, natD_get]
      have e2 : ((natD outs).map T.fr).eraseIdx told = (natD (outs.eraseIdx told)).map T.fr := by
        unfold natD
        rw [map_erase, map_erase]
      rw [e1, e2] at hpop
      have ha := append_eq (q := false) (g := eVar 9) (ρ := ρ1) (t0 := .lst ((natD ord).map T.fr)) (i := 9) (s := owl ord) rfl rfl rfl (bConsF_one hpop) rfl rfl (by rw [List.length_map, natD_len, sizeLine_eq]; omega)
      have e4 : (natD ord).map T.fr ++ [T.fr (.int (outs[told] : Nat))] = (natD (ord ++ [outs[told]])).map T.fr := by
        unfold natD
        rw [List.map_append, List.map_append]; rfl
      rw [e4] at ha
      refine ⟨ρ1, _, ?_, .inl (sExpr_eq ha), f2, outs.eraseIdx told, ord ++ [outs[told]], _, hf2, ?_, by rw [List.length_append]; simp; omega, .inr ⟨_, rfl⟩, rfl⟩
      · rw [el]
        rcases h10 with rfl | ⟨d, rfl⟩ <;> rfl
      · rw [List.length_eraseIdx_of_lt ht]; omega) (fun ρ' _ => ⟨ρ', rfl⟩)
  subst e
  rw [natD_len, List.length_range] at g2 g3
  have hu := Option.some.inj hu
  subst hu
  exact ⟨f', outs, ord, s10, g1, by omega, g4, hfin⟩
end K71

namespace K71
open PySem PySem.Spec PyProof.Rows L2 DL
variable {f f' : Feed} {ins most : Int} {sl : List Nat} {rs : List Row} {bits : Nat} {s7 s8 s9 s10 s11 s12 s13 s14 s15 s16 : Sl}
theorem shown_ok (hf : f.ok) (hb : bits ≤ 4) (h10 : Fre s10) : ∃ (f' : Feed) (ys : List Nat), f'.ok ∧ ys.length ≤ 4 ∧
    lcM (srcR rng1 (aCons (eVar 6) (aNil))) [10] (gNm 10) (cOf (bin true opGt (eFnL f__law_draw (lHere true (eVar 0) (aCons (eC (.int 3)) (aNil)))) (eC (.int 0)))) (eVar 10) (CE f ins most sl rs bits s7 s8 s9 s10 s11 s12 s13 s14 s15 s16)
    = some (.val (.lst ((natD ys).map T.fr)), CE f' ins most sl rs bits s7 s8 s9 s10 s11 s12 s13 s14 s15 s16) := by
  let S : MS → Prop := fun ρ => ∃ (f : Feed) (s10 : Sl), f.ok ∧ ρ = CE f ins most sl rs bits s7 s8 s9 s10 s11 s12 s13 s14 s15 s16
  obtain ⟨ys, ρ', h1, h2, f', s10', hf', rfl⟩ := lcM_st (src := srcR rng1 (aCons (eVar 6) (aNil))) (vs := [10]) (m := gNm 10) (c := cOf (bin true opGt (eFnL f__law_draw (lHere true (eVar 0) (aCons (eC (.int 3)) (aNil)))) (eC (.int 0)))) (e := eVar 10) (ρ := CE f ins most sl rs bits s7 s8 s9 s10 s11 s12 s13 s14 s15 s16) (ρ1 := CE f ins most sl rs bits s7 s8 s9 s10 s11 s12 s13 s14 s15 s16) S (List.range bits)
    (srcR_eq (ds := [.int (bits : Nat)]) rfl (rng1_nat (by omega))) (by rw [List.length_range, sizeLine_eq]; omega) ⟨f, s10, hf, rfl⟩ (fun k hk ρ hS => by
      obtain ⟨f1, s10, hf1, rfl⟩ := hS
      obtain ⟨f2, told, hf2, h0, h3, hd⟩ := draw_var hf1 (i := 0) (s := .pin f1.tree) (q := true) (many := 3) (ρ := CE f1 ins most sl rs bits s7 s8 s9 (ow (.int (k : Nat))) s11 s12 s13 s14 s15 s16) (ρ1 := CE f1 ins most sl rs bits s7 s8 s9 (ow (.int (k : Nat))) s11 s12 s13 s14 s15 s16) (gs := aCons (eC (.int 3)) aNil) rfl (.inr rfl) rfl rfl (by omega) (by omega)
      exact ⟨CE f1 ins most sl rs bits s7 s8 s9 (ow (.int (k : Nat))) s11 s12 s13 s14 s15 s16, decide (0 < told), CE f2 ins most sl rs bits s7 s8 s9 (ow (.int (k : Nat))) s11 s12 s13 s14 s15 s16, rfl, cOf_eq (bin_eq hd rfl rfl rfl rfl (DL.gt_int _ _)) rfl, fun _ => rfl, f2, _, hf2, rfl⟩) (by rcases h10 with rfl | ⟨d, rfl⟩ <;> rfl)
  refine ⟨f', ys, hf', ?_, h1⟩
  have := h2.length_le
  rw [List.length_range] at this
  omega
theorem rev_ok (hf : f.ok) {ys : List Nat} : ∃ (f' : Feed) (zs : List Nat), f'.ok ∧
    sIf (cOf (bin true opEq (eFnL f__law_draw (lHere true (eVar 0) (aCons (eC (.int 3)) (aNil)))) (eC (.int 0)))) (sSet 11 (un opRev (eVar 11))) (sNx) (CE f ins most sl rs bits s7 s8 s9 s10 (owl ys) s12 s13 s14 s15 s16)
    = some (.nx, CE f' ins most sl rs bits s7 s8 s9 s10 (owl zs) s12 s13 s14 s15 s16) := by
  obtain ⟨f', told, hf', _, hd⟩ := draw_e (ins := ins) (most := most) (sl := sl) (rs := rs) (bits := bits) (s7 := s7) (s8 := s8) (s9 := s9) (s10 := s10) (s11 := owl ys) (s12 := s12) (s13 := s13) (s14 := s14) (s15 := s15) (s16 := s16) hf 3 (by omega) (by omega) (q := true) (gs := aCons (eC (.int 3)) aNil) rfl
  have c1 := cOf_eq (bin_eq (q := true) (gb := eC (.int 0)) hd rfl rfl rfl rfl (eq_int _ _)) rfl
  cases hc : decide (((told : Nat) : Int) = 0) with
  | false => exact ⟨f', ys, hf', sIf_eq c1 (by rw [hc]; rfl)⟩
  | true =>
    refine ⟨f', ys.reverse, hf', sIf_eq c1 ?_⟩
    rw [hc, if_pos rfl]
    have hr : opRev (.lst ((natD ys).map T.fr)) = some (.lst ((natD ys.reverse).map T.fr)) := by
      unfold opRev
      rw [view_list]
      show some (T.lst ((natD ys).reverse.map T.fr)) = _
      unfold natD
      rw [← List.map_reverse]
    exact sSet_val (i := 11) (ρ1 := CE f' ins most sl rs bits s7 s8 s9 s10 (owl ys) s12 s13 s14 s15 s16) (un_eq (x := .bor 11 []) (t := .lst ((natD ys).map T.fr)) rfl rfl hr) rfl
theorem lay_rows : ∀ rs : List Row, (∀ r ∈ rs, RowOk r) → PyData.canLayAll0 (rs.map Row.enc) = true ∧ PyData.depthAll (rs.map Row.enc) ≤ 2
  | [], _ => ⟨rfl, by show 0 ≤ 2; omega⟩
  | r :: rs, h => by
    obtain ⟨a, b⟩ := lay_rows rs fun x hx => h x (List.mem_cons_of_mem _ hx)
    obtain ⟨_, c, d⟩ := h r List.mem_cons_self
    constructor
    · show (PyData.canLay0 r.enc && PyData.canLayAll0 (rs.map Row.enc)) = true
      rw [a, c]; rfl
    · show max (PyData.depth r.enc) (PyData.depthAll (rs.map Row.enc)) ≤ 2
      omega
theorem shaped_core (h : ∀ r ∈ rs, RowOk r) (os sh : List Nat) : SeqAt.shaped (coreD ins rs (.list (natD os)) (.list (natD sh))) = true := by
  obtain ⟨a, b⟩ := lay_rows rs h
  have l : ∀ xs : List Nat, PyData.canLay0 (.list (natD xs)) = true ∧ PyData.depth (.list (natD xs)) = 1 := fun xs => by
    rw [natD_int]
    exact ⟨lay_ints _, depth_nat _⟩
  unfold SeqAt.shaped
  have h1 : PyData.canLay0 (coreD ins rs (.list (natD os)) (.list (natD sh))) = true := by
    show (true && (PyData.canLayAll0 (rs.map Row.enc) && (PyData.canLay0 (.list (natD os)) && (PyData.canLay0 (.list (natD sh)) && true)))) = true
    rw [a, (l os).1, (l sh).1]; rfl
  have h2 : PyData.depth (coreD ins rs (.list (natD os)) (.list (natD sh))) ≤ 64 := by
    show max 0 (max (PyData.depthAll (rs.map Row.enc) + 1) (max (PyData.depth (.list (natD os))) (max (PyData.depth (.list (natD sh))) 0))) + 1 ≤ 64
    rw [(l os).2, (l sh).2]
    omega
  rw [h1, decide_eq_true h2]
  rfl
theorem ret_ok {ord zs : List Nat} : ∃ ρ', sRet (eTup (aCons (eVar 1) (aCons (eVar 5) (aCons (eVar 9) (aCons (eVar 11) (aNil)))))) (CE f ins most sl rs bits s7 s8 (owl ord) s10 (owl zs) s12 s13 s14 s15 s16)
    = some (.rt (.val (.fr (coreD ins rs (.list (natD ord)) (.list (natD zs))))), ρ') ∧ pinsOf 4 ρ' = [.pin f.tree, .non, .non, .non] := by
  let ρ : MS := CE f ins most sl rs bits s7 s8 (owl ord) s10 (owl zs) s12 s13 s14 s15 s16
  have h5 : fz (eVar 5) ρ = some (rowsD rs, ρ.set 5 (ow (rowsD rs))) := (show DS (rowsS rs) (rs.map Row.enc) from .inl rfl).frz (i := 5) rfl
  have h9 : fz (eVar 9) (ρ.set 5 (ow (rowsD rs))) = some (.list (natD ord), (ρ.set 5 (ow (rowsD rs))).set 9 (ow (.list (natD ord)))) := (show DS (owl ord) (natD ord) from .inl rfl).frz (i := 9) rfl
  have h11 : fz (eVar 11) ((ρ.set 5 (ow (rowsD rs))).set 9 (ow (.list (natD ord)))) = some (.list (natD zs), ((ρ.set 5 (ow (rowsD rs))).set 9 (ow (.list (natD ord)))).set 11 (ow (.list (natD zs)))) := (show DS (owl zs) (natD zs) from .inl rfl).frz (i := 11) rfl
  have ha : aCons (eVar 1) (aCons (eVar 5) (aCons (eVar 9) (aCons (eVar 11) (aNil)))) ρ = some ([.int ins, rowsD rs, .list (natD ord), .list (natD zs)], ((ρ.set 5 (ow (rowsD rs))).set 9 (ow (.list (natD ord)))).set 11 (ow (.list (natD zs)))) :=
    aCons_fz (ρ1 := ρ) rfl (aCons_fz h5 (aCons_fz h9 (aCons_fz h11 rfl)))
  refine ⟨((ρ.set 5 (ow (rowsD rs))).set 9 (ow (.list (natD ord)))).set 11 (ow (.list (natD zs))), sRet_eq ?_, rfl⟩
  show ((aCons _ _ ρ).bind _) = _
  rw [ha]; rfl
end K71

namespace K71
open PySem PySem.Spec PyProof.Rows L2 DL
variable {f : Feed} {ins most : Int}
def mEnd : M Fl := (sSeq (sSet 8 (un opListOf (eVar 4)))
  (sSeq (sSet 9 (eLst (aNil)))
  (sSeq (sFor (srcR rng1 (aCons (un opLen (eVar 8)) (aNil))) (gNm 10) (sExpr (mutM "list" false lAppend (eVar 9) (bConsF (mutM "list" false lPop (eVar 8) (bConsF (eFnL f__law_draw (lHere true (eVar 0) (aCons (un opLen (eVar 8)) (aNil)))) (bNil))) (bNil)))))
  (sSeq (sSet 11 (lcM (srcR rng1 (aCons (eVar 6) (aNil))) [10] (gNm 10) (cOf (bin true opGt (eFnL f__law_draw (lHere true (eVar 0) (aCons (eC (.int 3)) (aNil)))) (eC (.int 0)))) (eVar 10)))
  (sSeq (sIf (cOf (bin true opEq (eFnL f__law_draw (lHere true (eVar 0) (aCons (eC (.int 3)) (aNil)))) (eC (.int 0)))) (sSet 11 (un opRev (eVar 11))) (sNx))
  (sRet (eTup (aCons (eVar 1) (aCons (eVar 5) (aCons (eVar 9) (aCons (eVar 11) (aNil)))))))))))) 
theorem init_ok (hi : 0 ≤ ins ∧ ins ≤ 2) (ρ : MS) (e1 : ρ[1]? = some (ow (.int ins))) (e10 : ρ = (ρ.take 10) ++ .non :: ρ.drop 11) (hl : (ρ.take 10).length = 10) : lcM (srcR rng1 (aCons (eVar 1) (aNil))) [10] (gNm 10) (cYes) (eVar 10) ρ = some (.val (.lst ((natD (List.range ins.toNat)).map T.fr)), ρ) := by
  obtain ⟨n, rfl⟩ : ∃ n : Nat, ins = (n : Int) := ⟨ins.toNat, by omega⟩
  have hv : eVar 1 ρ = some (.val (.fr (.int (n : Nat))), ρ) := by
    show (ρ[1]?.bind Sl.tree?).map _ = _
    rw [e1]; rfl
  have hn : ((n : Int)).toNat = n := by omega
  rw [hn]
  have g10 : ρ[10]? = some .non := by
    rw [e10, List.getElem?_append_right (by omega), hl]; rfl
  have hlt : 10 < ρ.length := (List.getElem?_eq_some_iff.mp g10).1
  have hset : ρ.set 10 .non = ρ := set_self g10
  have hw : wipeM [10] ρ = ρ := hset
  have h := lcM_nat (vs := [10]) (m := gNm 10) (c := cYes) (e := eVar 10) (ρ1 := ρ) (ρ3 := ρ) (hd := none) (src := srcR rng1 (aCons (eVar 1) (aNil))) (ρ := ρ) (List.range n) (fun _ => true) (fun k => .int (k : Nat))
    (srcR_eq (ds := [.int (n : Nat)]) (aCons_eq hv rfl rfl) (rng1_nat (by omega))) (by rw [List.length_range, sizeLine_eq]; omega) (fun k hk => by
      have ew : wipeM [10] (hideM none ρ) = ρ := hw
      refine ⟨ρ.set 10 (ow (.int (k : Nat))), ?_, rfl, fun _ => ?_, ?_⟩
      · rw [ew]
        show (if freeAt ρ 10 = true then some (ρ.set 10 (.own (.fr (.int (k : Nat))))) else none) = _
        rw [if_pos (show freeAt ρ 10 = true by unfold freeAt; rw [g10])]; rfl
      · have : eVar 10 (ρ.set 10 (ow (.int (k : Nat)))) = some (.val (.fr (.int (k : Nat))), ρ.set 10 (ow (.int (k : Nat)))) := by
          show ((ρ.set 10 (ow (.int (k : Nat))))[10]?.bind Sl.tree?).map _ = _
          rw [List.getElem?_set_self hlt]; rfl
        exact fz_eq this rfl
      · rw [ew]
        show (ρ.set 10 _).set 10 .non = ρ
        rw [List.set_set, hset]) (by show ([10].all fun v => plainSl ρ[v]?) = true; show (plainSl ρ[10]? && true) = true; rw [g10]; rfl) (by
      show some (giveBack [10] ρ (wipeM [10] ρ)) = some ρ
      rw [hw]
      show some (match ρ[10]? with | some s => (giveBack [] ρ ρ).set 10 s | none => giveBack [] ρ ρ) = some ρ
      rw [g10]
      show some (ρ.set 10 .non) = some ρ
      rw [hset])
  rw [List.filter_eq_self.mpr (fun _ _ => rfl)] at h
  exact h
theorem core_ok (hf : f.ok) (hi : 0 ≤ ins ∧ ins ≤ 2) (hm : 0 ≤ most ∧ most ≤ 40) : ∃ (f' : Feed) (rs : List Row) (os sh : List PyData), f'.ok ∧ Good rs ∧ (rs.length : Int) ≤ most ∧ SeqAt.shaped (coreD ins rs (.list os) (.list sh)) = true ∧
    f__law_core [.pin f.tree, ow (.int ins), ow (.int 4), ow (.int most)] = some (.fr (coreD ins rs (.list os) (.list sh)), [.pin f'.tree, .non, .non, .non]) := by
  let st := List.range ins.toNat
  let ρ0 : MS := [.pin f.tree, ow (.int ins), ow (.int 4), ow (.int most), .non, .non, .non, .non, .non, .non, .non, .non, .non, .non, .non, .non, .non]
  let ρ3 : MS := CS f ins most st [] 0 .non .non .non .non .non .non
  have t1 : sSet 4 (lcM (srcR rng1 (aCons (eVar 1) (aNil))) [10] (gNm 10) (cYes) (eVar 10)) ρ0 = some (.nx, ρ0.set 4 (owl st)) := sSet_val (i := 4) (ρ1 := ρ0) (init_ok hi ρ0 rfl rfl rfl) rfl
  obtain ⟨f1, told, hf1, h0, hlt, hd⟩ := draw_var hf (i := 0) (s := .pin f.tree) (q := true) (many := most + 1) (ρ := ρ3) (ρ1 := ρ3) (gs := aCons (bin true opAdd (eVar 3) (eC (.int 1))) aNil) rfl (.inr rfl) rfl rfl (by omega) (by omega)
  obtain ⟨n, rfl⟩ : ∃ n : Nat, told = (n : Int) := ⟨told.toNat, by omega⟩
  have hsrc : srcR rng1 (aCons (eFnL f__law_draw (lHere true (eVar 0) (aCons (bin true opAdd (eVar 3) (eC (.int 1))) (aNil)))) (aNil)) ρ3 = some ((natD (List.range n), none), CS f1 ins most st [] 0 .non .non .non .non .non .non) :=
    srcR_eq (ds := [.int (n : Nat)]) (aCons_eq hd rfl rfl) (rng1_nat (by omega))
  let S : Nat → MS → Prop := fun t ρ => ∃ (f : Feed) (sl : List Nat) (rs : List Row) (bits : Nat) (s7 s12 s13 s14 s15 s16 : Sl), CI f sl rs bits t ∧ Fre s7 ∧ Fre s12 ∧ Fr4 s13 ∧ Fre s14 ∧ Fr4 s15 ∧ Fre s16 ∧ ρ = CS f ins most sl rs bits s7 s12 s13 s14 s15 s16
  obtain ⟨ρ', ρ4, ⟨f2, sl, rs, bits, s7, s12, s13, s14, s15, s16, I, f7, f12, f13, f14, f15, f16, e⟩, hu, hfin⟩ := sFor_inv (m := gNm 7) (n := mTurn) hsrc S
    ⟨f1, st, [], 0, .non, .non, .non, .non, .non, .non, ⟨hf1, List.nodup_range, by show (List.range ins.toNat).length ≤ 4; rw [List.length_range]; omega, by omega, by simp, fun r hr => (nomatch hr)⟩, .inl rfl, .inl rfl, .inl rfl, .inl rfl, .inl rfl, .inl rfl, rfl⟩ (fun t ρ ht hS => by
    obtain ⟨f, sl, rs, bits, s7, s12, s13, s14, s15, s16, I, f7, f12, f13, f14, f15, f16, rfl⟩ := hS
    have ht' : t < n := by rw [natD_len, List.length_range] at ht; exact ht
    obtain ⟨f', sl', rs', bits', s12', s13', s14', s15', s16', I', g12, g13, g14, g15, g16, hh⟩ := turn_core (ins := ins) (most := most) (s7 := ow ((natD (List.range n))[t]'ht)) I (by omega) f12 f13 f14 f15 f16
    refine ⟨CS f ins most sl rs bits (ow ((natD (List.range n))[t]'ht)) s12 s13 s14 s15 s16, _, ?_, .inl hh, f', sl', rs', bits', _, s12', s13', s14', s15', s16', I', .inr ⟨_, rfl⟩, g12, g13, g14, g15, g16, rfl⟩
    rcases f7 with rfl | ⟨d, rfl⟩ <;> rfl) (fun ρ' _ => ⟨ρ', rfl⟩)
  subst e
  have hu := Option.some.inj hu
  subst hu
  have hrl : rs.length ≤ 40 := by
    have := I.rows
    rw [natD_len, List.length_range] at this
    omega
  have G : Good rs := ⟨by omega, fun r hr => by have := (I.each r hr).1; omega⟩
  let ρ5 : MS := CE f2 ins most sl rs bits s7 (owl sl) .non .non .non s12 s13 s14 s15 s16
  have hlo : opListOf (.lst ((natD sl).map T.fr)) = some (.lst ((natD sl).map T.fr)) := by
    unfold opListOf
    rw [view_list]
  have t8 : sSet 8 (un opListOf (eVar 4)) (CS f2 ins most sl rs bits s7 s12 s13 s14 s15 s16) = some (.nx, ρ5) :=
    sSet_val (i := 8) (ρ1 := CS f2 ins most sl rs bits s7 s12 s13 s14 s15 s16) (un_eq (x := .bor 4 []) (t := .lst ((natD sl).map T.fr)) rfl rfl hlo) rfl
  have t9 : sSet 9 (eLst (aNil)) ρ5 = some (.nx, CE f2 ins most sl rs bits s7 (owl sl) (owl []) .non .non s12 s13 s14 s15 s16) := rfl
  obtain ⟨f3, outs, ord, s10, hf3, hol, h10, t10⟩ := order_ok (ins := ins) (most := most) (rs := rs) (bits := bits) (s7 := s7) (s12 := s12) (s13 := s13) (s14 := s14) (s15 := s15) (s16 := s16) I.f I.len
  obtain ⟨f4, ys, hf4, hy, h11⟩ := shown_ok (ins := ins) (most := most) (sl := sl) (rs := rs) (bits := bits) (s7 := s7) (s8 := owl outs) (s9 := owl ord) (s10 := s10) (s11 := .non) (s12 := s12) (s13 := s13) (s14 := s14) (s15 := s15) (s16 := s16) hf3 I.bits h10
  have t11 : sSet 11 _ (CE f3 ins most sl rs bits s7 (owl outs) (owl ord) s10 .non s12 s13 s14 s15 s16) = some (.nx, CE f4 ins most sl rs bits s7 (owl outs) (owl ord) s10 (owl ys) s12 s13 s14 s15 s16) :=
    sSet_val (i := 11) (ρ1 := CE f4 ins most sl rs bits s7 (owl outs) (owl ord) s10 .non s12 s13 s14 s15 s16) h11 rfl
  obtain ⟨f5, zs, hf5, t12⟩ := rev_ok (ins := ins) (most := most) (sl := sl) (rs := rs) (bits := bits) (s7 := s7) (s8 := owl outs) (s9 := owl ord) (s10 := s10) (s12 := s12) (s13 := s13) (s14 := s14) (s15 := s15) (s16 := s16) hf4 (ys := ys)
  obtain ⟨ρ9, h9, hp⟩ := ret_ok (f := f5) (ins := ins) (most := most) (sl := sl) (rs := rs) (bits := bits) (s7 := s7) (s8 := owl outs) (s10 := s10) (s12 := s12) (s13 := s13) (s14 := s14) (s15 := s15) (s16 := s16) (ord := ord) (zs := zs)
  refine ⟨f5, rs, natD ord, natD zs, hf5, G, by have := I.rows; rw [natD_len, List.length_range] at this; omega, shaped_core I.each ord zs, ?_⟩
  have hrun := runFn_ret (n := 4) (nsl := 17) (m := m__law_core) (ps := [.pin f.tree, ow (.int ins), ow (.int 4), ow (.int most)]) ⟨rfl, rfl⟩ (sSeq_eq t1 (sSeq_eq (ρ1 := (ρ0.set 4 (owl st)).set 5 (.own (.lst []))) rfl (sSeq_eq (ρ1 := ρ3) rfl (sSeq_eq hfin (sSeq_eq t8 (sSeq_eq t9 (sSeq_eq t10 (sSeq_eq t11 (sSeq_eq t12 h9)))))))))
  rw [hp] at hrun
  exact hrun
end K71

namespace DL
open PySem PySem.Spec PyProof.Rows L2
theorem eFnL_lent {G : Fn} {gl : M (List PyData × R × List PyData)} {as bs : List PyData} {i : Nat} {p : Path} {ρ ρ' : MS} {s : Sl} {t0 t t' r : T} {ps : MS} (hgl : gl ρ = some ((as, .bor i p, bs), ρ')) (e : ρ'[i]? = some s) (et : s.tree? = some t0) (hg : t0.get p = some t)
    (hG : G (as.map ofr ++ .pin t :: bs.map ofr) = some (r, ps)) (hq : ps[as.length]? = some (.pin t')) : eFnL G gl ρ = some (.val r, ρ'.set i (s.with (t0.put p t'))) := by
  have e0 : eFnL G gl ρ = (gl ρ).bind fun x => match x.1.2.1 with
    | .val t => (G (x.1.1.map ofr ++ .own t :: x.1.2.2.map ofr)).map fun z => (.val z.1, x.2)
    | .bor i p => x.2[i]?.bind fun s => s.tree?.bind fun t0 => (t0.get p).bind fun t => (G (x.1.1.map ofr ++ .pin t :: x.1.2.2.map ofr)).bind fun z => match z.2[x.1.1.length]? with
      | some (.pin t') => some (.val z.1, x.2.set i (s.with (t0.put p t')))
      | _ => none := rfl
  rw [e0, hgl, Option.bind_some]
  show (ρ'[i]?.bind _) = _
  rw [e, Option.bind_some, et, Option.bind_some, hg, Option.bind_some, hG, Option.bind_some]
  show (match ps[as.length]? with
    | some (.pin t') => some (R.val r, ρ'.set i (s.with (t0.put p t')))
    | _ => none) = _
  rw [hq]
theorem eFnL_val {G : Fn} {gl : M (List PyData × R × List PyData)} {as bs : List PyData} {ρ ρ' : MS} {t r : T} {ps : MS} (hgl : gl ρ = some ((as, .val t, bs), ρ')) (hG : G (as.map ofr ++ .own t :: bs.map ofr) = some (r, ps)) : eFnL G gl ρ = some (.val r, ρ') := by
  have e0 : eFnL G gl ρ = (gl ρ).bind fun x => match x.1.2.1 with
    | .val t => (G (x.1.1.map ofr ++ .own t :: x.1.2.2.map ofr)).map fun z => (.val z.1, x.2)
    | .bor i p => x.2[i]?.bind fun s => s.tree?.bind fun t0 => (t0.get p).bind fun t => (G (x.1.1.map ofr ++ .pin t :: x.1.2.2.map ofr)).bind fun z => match z.2[x.1.1.length]? with
      | some (.pin t') => some (.val z.1, x.2.set i (s.with (t0.put p t')))
      | _ => none := rfl
  rw [e0, hgl, Option.bind_some]
  show (G (as.map ofr ++ .own t :: bs.map ofr)).map _ = _
  rw [hG]; rfl
end DL
namespace K71
open PySem PySem.Spec PyProof.Rows L2 DL
theorem feed_ok (ns : List Int) : f__law_feed [.pin (.scr (ns.map PyData.int))] = some (Feed.tree ⟨ns, 0, 0, 1⟩, [.pin (.scr (ns.map PyData.int))]) := by
  let ρ : MS := [.pin (.scr (ns.map PyData.int))]
  have h1 : un opListOf (eVar 0) ρ = some (.val (.lst ((ns.map PyData.int).map T.fr)), ρ) := rfl
  have h2 : fz (un opListOf (eVar 0)) ρ = some (.list (ns.map PyData.int), ρ) := fz_eq h1 (by show (T.erase _).map _ = _; rw [erase_lst]; rfl)
  have h3 : eLst (aCons (un opListOf (eVar 0)) (aCons (eC (.int 0)) (aCons (eC (.int 0)) (aCons (eC (.int 1)) (aNil))))) ρ = some (.val (Feed.tree ⟨ns, 0, 0, 1⟩), ρ) := by
    show ((aCons _ _ ρ).bind _) = _
    rw [aCons_fz h2 rfl]; rfl
  exact runFn_val (ρ := ρ) ⟨rfl, rfl⟩ (sRet_eq h3)
end K71

namespace K71
open PySem PySem.Spec PyProof.Rows L2 DL
def SL (ns : List Int) (f : Feed) (s2 s3 s4 : Sl) : MS := [.own (.scr (ns.map PyData.int)), .own f.tree, s2, s3, s4]
variable {ns : List Int} {f : Feed} {s2 s3 s4 : Sl}
theorem draw_l (hf : f.ok) (many : Nat) (h0 : 0 < many) (hb : many < 1000000) : ∃ (f' : Feed) (told : Nat), f'.ok ∧ told < many ∧ eFnL f__law_draw (lHere true (eVar 1) (aCons (eC (.int (many : Nat))) aNil)) (SL ns f s2 s3 s4) = some (.val (.fr (.int (told : Nat))), SL ns f' s2 s3 s4) := by
  obtain ⟨f', told, a, b, c, d⟩ := draw_var hf (i := 1) (s := .own f.tree) (q := true) (many := (many : Int)) (ρ := SL ns f s2 s3 s4) (ρ1 := SL ns f s2 s3 s4) (gs := aCons (eC (.int (many : Nat))) aNil) rfl (.inl rfl) rfl rfl (by omega) (by omega)
  refine ⟨f', told.toNat, a, by omega, ?_⟩
  rw [show ((told.toNat : Nat) : Int) = told by omega]
  exact d
theorem mt_pair (f : Nat) (a : Int) {xs : List Nat} (h : xs.length ≤ 1000) : Mt (f + 3) (.fr (.tuple [.int a, .list (natD xs)])) (.tuple [.int a, .list (natD xs)]) := .frt (by simp) fun d hd => by
  rcases List.mem_cons.mp hd with rfl | hd
  · exact .int
  · have := List.mem_singleton.mp hd
    subst this
    exact mt_nat f h
end K71

/-! the judges' parts, of any data -/
namespace DL
open PySem PySem.Spec PyProof.Rows L2
theorem all_of {α : Type} {g : M R} {ρ ρ' : MS} {xs : List α} {b : α → Bool} (h : g ρ = some (.val (.lst (((xs.filter fun _ => true).map fun x => PyData.bool (b x)).map T.fr)), ρ')) : un opAll g ρ = some (.val (.fr (.bool (xs.all b))), ρ') := by
  refine un_eq h rfl ?_
  have e : ((xs.filter fun _ => true).map fun x => PyData.bool (b x)) = (xs.map b).map PyData.bool := by
    rw [List.filter_eq_self.mpr fun _ _ => rfl, List.map_map]; rfl
  rw [e, bools_all]
  congr 3
  rw [List.all_map]; rfl
theorem chain_bb {qb qc : Bool} {f f' : T → T → Option T} {ga gb gc : M R} {ρ : MS} {x y z : T} {b1 b2 : Bool} (h1 : ga ρ = some (.val x, ρ)) (h2 : gb ρ = some (.val y, ρ)) (h3 : gc ρ = some (.val z, ρ)) (hf : f x y = some (.fr (.bool b1))) (hf' : f' y z = some (.fr (.bool b2))) :
    chainM qb qc f f' ga gb gc ρ = some (.val (.fr (.bool (b1 && b2))), ρ) := by
  cases b1 with
  | true => exact chain_eq h1 h2 h3 hf hf'
  | false =>
    have e0 : chainM qb qc f f' ga gb gc ρ = (ga ρ).bind fun x => (gb x.2).bind fun y =>
      if x.1.waits qb = true then (look y.2 x.1).bind fun t => (look y.2 y.1).bind fun u => (f t u).bind fun r => r.asBool.bind fun k =>
        if k then (gc y.2).bind fun z => if y.1.waits qc = true then (look z.2 y.1).bind fun u => (look z.2 z.1).bind fun w => (f' u w).map fun r => (R.val r, z.2) else none
        else some (.val (.fr (.bool false)), y.2)
      else none := rfl
    rw [e0, h1, Option.bind_some]
    show (gb ρ).bind _ = _
    rw [h2, Option.bind_some]
    show (f x y).bind _ = _
    rw [hf]
    rfl
/-- a walk that may hand back something -/
theorem loopM_ret {m : GM} {n : M Fl} {ds : List PyData} (S : Nat → MS → Prop) (E : R → MS → Prop) (step : ∀ i ρ (h : i < ds.length), S i ρ → ∃ ρ1, m ds[i] ρ = some ρ1 ∧ ((∃ ρ2, (n ρ1 = some (.nx, ρ2) ∨ n ρ1 = some (.ct, ρ2)) ∧ S (i + 1) ρ2) ∨ ∃ r ρ2, n ρ1 = some (.rt r, ρ2) ∧ E r ρ2)) :
    ∀ ρ, S 0 ρ → (∃ ρ', loopM m n ds ρ = some (.nx, ρ') ∧ S ds.length ρ') ∨ ∃ r ρ', loopM m n ds ρ = some (.rt r, ρ') ∧ E r ρ' := by
  have go : ∀ k i ρ, i + k = ds.length → S i ρ → (∃ ρ', loopM m n (ds.drop i) ρ = some (.nx, ρ') ∧ S ds.length ρ') ∨ ∃ r ρ', loopM m n (ds.drop i) ρ = some (.rt r, ρ') ∧ E r ρ' := fun k => by
    induction k with
    | zero =>
      intro i ρ hi hs
      have : i = ds.length := by omega
      subst this
      rw [List.drop_length]
      exact .inl ⟨ρ, rfl, hs⟩
    | succ k ih =>
      intro i ρ hi hs
      have hlt : i < ds.length := by omega
      have e0 : ∀ ρ, loopM m n (ds[i] :: ds.drop (i + 1)) ρ = (m ds[i] ρ).bind fun ρ1 => (n ρ1).bind fun x => match x.1 with
        | .nx => loopM m n (ds.drop (i + 1)) x.2
        | .ct => loopM m n (ds.drop (i + 1)) x.2
        | .bk => some (.nx, x.2)
        | .rt r => some (.rt r, x.2) := fun _ => rfl
      rw [List.drop_eq_getElem_cons hlt]
      obtain ⟨ρ1, h1, h2⟩ := step i ρ hlt hs
      rw [e0, h1, Option.bind_some]
      rcases h2 with ⟨ρ2, h2, h3⟩ | ⟨r, ρ2, h2, h3⟩
      · rcases h2 with h2 | h2
        · rw [h2, Option.bind_some]; exact ih (i + 1) ρ2 (by omega) h3
        · rw [h2, Option.bind_some]; exact ih (i + 1) ρ2 (by omega) h3
      · rw [h2, Option.bind_some]
        exact .inr ⟨r, ρ2, rfl, h3⟩
  intro ρ hs
  exact go ds.length 0 ρ (by omega) hs
/-- the same of a for; what is handed back owns nothing that is hidden -/
theorem sFor_ret {src : Src} {m : GM} {n : M Fl} {ρ ρ1 : MS} {ds : List PyData} (hs : src ρ = some ((ds, none), ρ1)) (S : Nat → MS → Prop) (E : R → MS → Prop) (h0 : S 0 ρ1)
    (step : ∀ i ρ (h : i < ds.length), S i ρ → ∃ ρ1, m ds[i] ρ = some ρ1 ∧ ((∃ ρ2, (n ρ1 = some (.nx, ρ2) ∨ n ρ1 = some (.ct, ρ2)) ∧ S (i + 1) ρ2) ∨ ∃ r ρ2, n ρ1 = some (.rt r, ρ2) ∧ E r ρ2)) :
    (∃ ρ', sFor src m n ρ = some (.nx, ρ') ∧ S ds.length ρ') ∨ ∃ r ρ', sFor src m n ρ = some (.rt r, ρ') ∧ E r ρ' := by
  have e0 : sFor src m n ρ = (src ρ).bind fun x => (loopM m n x.1.1 (hideM x.1.2 x.2)).bind fun y => (unhide x.1.2 x.2 y.2).map fun ρ3 => (y.1, ρ3) := rfl
  rcases loopM_ret S E step ρ1 h0 with ⟨ρ', a, b⟩ | ⟨r, ρ', a, b⟩
  · refine .inl ⟨ρ', ?_, b⟩
    rw [e0, hs, Option.bind_some]
    show (loopM m n ds ρ1).bind _ = _
    rw [a]; rfl
  · refine .inr ⟨r, ρ', ?_, b⟩
    rw [e0, hs, Option.bind_some]
    show (loopM m n ds ρ1).bind _ = _
    rw [a]; rfl
/-- a statement that returns ends its block -/
theorem sSeq_ret {m n : M Fl} {ρ ρ1 : MS} {r : R} (h : m ρ = some (.rt r, ρ1)) : sSeq m n ρ = some (.rt r, ρ1) := by
  have e0 : sSeq m n ρ = (m ρ).bind fun x => match x.1 with | .nx => n x.2 | fl => some (fl, x.2) := rfl
  rw [e0, h]; rfl
theorem opNe_int (i j : Int) : opNe (.fr (.int i)) (.fr (.int j)) = some (.fr (.bool (!decide (i = j)))) := by
  show (eqD (.int i) (.int j)).map (fun b => T.fr (.bool (!b))) = _
  have : eqD (.int i) (.int j) = some (PyData.eqv (.int i) (.int j)) := rfl
  rw [this, eqv_int]; rfl
end DL
namespace K71
open PySem PySem.Spec PyProof.Rows L2 DL
variable {rs : List Row} {ins : Int} {os sh : PyData}
def isW : PyData → Bool
  | .int _ => true
  | _ => false
def SmL (d : PyData) : Prop := ∀ ds, d = .list ds → ds.length ≤ 1000
theorem sm_le {d : PyData} {ds : List PyData} (h : SmL d) (e : d = .list ds) : ds.length ≤ sizeLine := by rw [sizeLine_eq]; have := h ds e; omega
theorem is_whole_ok (d : PyData) : f_is_whole [ow d] = some (.fr (.bool (isW d)), [.non]) := by cases d <;> rfl
theorem law_whole_ok (d : PyData) : f__law_whole [ow d] = some (.fr (.bool (isW d)), [.non]) := by cases d <;> rfl
def arW : PyData → Bool
  | .list ds => ds.all isW
  | _ => false
theorem arW_not {d : PyData} (h : ∀ ds, d ≠ .list ds) : arW d = false := by
  cases d <;> first | rfl | exact absurd rfl (h _)
theorem isi_list (d : PyData) {ρ : MS} {i : Nat} (e : ρ[i]? = some (ow d)) : ∃ b, un (opIsi "list") (eVar i) ρ = some (.val (.fr (.bool b)), ρ) ∧ (b = true ↔ ∃ ds, d = .list ds) := by
  have hv : eVar i ρ = some (.val (.fr d), ρ) := by
    show (ρ[i]?.bind Sl.tree?).map _ = _
    rw [e]; rfl
  cases d with
  | list ds => exact ⟨true, un_eq hv rfl rfl, ⟨fun _ => ⟨ds, rfl⟩, fun _ => rfl⟩⟩
  | none => exact ⟨false, un_eq hv rfl rfl, ⟨fun z => by simp at z, fun ⟨_, z⟩ => by cases z⟩⟩
  | bool b => exact ⟨false, un_eq hv rfl rfl, ⟨fun z => by simp at z, fun ⟨_, z⟩ => by cases z⟩⟩
  | int n => exact ⟨false, un_eq hv rfl rfl, ⟨fun z => by simp at z, fun ⟨_, z⟩ => by cases z⟩⟩
  | str x => exact ⟨false, un_eq hv rfl rfl, ⟨fun z => by simp at z, fun ⟨_, z⟩ => by cases z⟩⟩
  | tuple x => exact ⟨false, un_eq hv rfl rfl, ⟨fun z => by simp at z, fun ⟨_, z⟩ => by cases z⟩⟩
  | dict x => exact ⟨false, un_eq hv rfl rfl, ⟨fun z => by simp at z, fun ⟨_, z⟩ => by cases z⟩⟩
theorem not_list_c {d : PyData} {ρ : MS} {i : Nat} (e : ρ[i]? = some (ow d)) : ∃ b, cNot (cTru (un (opIsi "list") (eVar i))) ρ = some (!b, ρ) ∧ (b = true ↔ ∃ ds, d = .list ds) := by
  obtain ⟨b, h, hb⟩ := isi_list d e
  exact ⟨b, cNot_eq (cTru_eq h rfl rfl), hb⟩
theorem src_list {ds : List PyData} {ρ : MS} {i : Nat} (e : ρ[i]? = some (ow (.list ds))) : srcV T.asList (eVar i) ρ = some ((ds, none), ρ) := by
  have hv : eVar i ρ = some (.val (.fr (.list ds)), ρ) := by
    show (ρ[i]?.bind Sl.tree?).map _ = _
    rw [e]; rfl
  exact srcV_eq hv rfl rfl
theorem are_wholes_ok (d : PyData) (h : SmL d) : f_are_wholes [ow d] = some (.fr (.bool (arW d)), [.non]) := by
  let ρ : MS := [ow d, .non]
  obtain ⟨b, c1, hb⟩ := not_list_c (d := d) (ρ := ρ) (i := 0) rfl
  cases b with
  | false =>
    have hn : ∀ ds, d ≠ .list ds := fun ds z => by have := hb.mpr ⟨ds, z⟩; simp at this
    rw [arW_not hn]
    exact runFn_ret (ρ := ρ) ⟨rfl, rfl⟩ (sSeq_ret (sIf_eq c1 rfl))
  | true =>
    obtain ⟨ds, rfl⟩ := hb.mp rfl
    have hc := lcM_pure (vs := [1]) (m := gNm 1) (c := cYes) (e := eFn f_is_whole (aCons (eVar 1) aNil)) (ρ3 := ρ) (fun _ => true) (fun x => .bool (isW x)) (src_list (ρ := ρ) (i := 0) rfl) (sm_le h rfl) (fun x hx => by
      refine ⟨[ow (.list ds), ow x], rfl, rfl, fun _ => ?_, rfl⟩
      exact fz_eq (eFn_eq (ds := [x]) rfl (is_whole_ok x)) rfl) rfl rfl
    exact runFn_ret (ρ := ρ) ⟨rfl, rfl⟩ (sSeq_eq (sIf_eq c1 rfl) (sRet_eq (all_of hc)))
/-- a call with a frozen thing lent -/
theorem eFnL_fr {G : Fn} {q : Bool} {i : Nat} {ρ ρ' : MS} {d : PyData} {gs : DL.M (List PyData)} {bs : List PyData} {r : T} {ps : MS} (e : ρ[i]? = some (ow d)) (hgs : gs ρ = some (bs, ρ')) (hG : G (ow d :: bs.map ofr) = some (r, ps)) : eFnL G (lHere q (eVar i) gs) ρ = some (.val r, ρ') := by
  have hv : eVar i ρ = some (.val (.fr d), ρ) := by
    show (ρ[i]?.bind Sl.tree?).map _ = _
    rw [e]; rfl
  exact eFnL_val (as := []) (lHere_gen hv hgs rfl) hG
def inB (lo hi : Int) : PyData → Bool
  | .int n => decide (lo ≤ n) && decide (n ≤ hi)
  | _ => false
def btB (lo hi : Int) : PyData → Bool
  | .list ds => ds.all isW && ds.all (inB lo hi)
  | _ => false
theorem are_between_ok (d : PyData) (lo hi : Int) (h : SmL d) : f_are_between [ow d, ow (.int lo), ow (.int hi)] = some (.fr (.bool (btB lo hi d)), [.non, .non, .non]) := by
  let ρ : MS := [ow d, ow (.int lo), ow (.int hi), .non]
  have c1 : cNot (cTru (eFnL f_are_wholes (lHere true (eVar 0) aNil))) ρ = some (!arW d, ρ) := cNot_eq (cTru_eq (eFnL_fr (ρ := ρ) (i := 0) rfl rfl (are_wholes_ok d h)) rfl rfl)
  cases hw : arW d with
  | false =>
    have e : btB lo hi d = false := by
      cases d with
      | list ds => show (ds.all isW && _) = false; rw [show ds.all isW = false from hw]; rfl
      | _ => rfl
    rw [hw] at c1
    rw [e]
    exact runFn_ret (ρ := ρ) ⟨rfl, rfl⟩ (sSeq_ret (sIf_eq c1 rfl))
  | true =>
    rw [hw] at c1
    cases d with
    | list ds =>
      have hall : ds.all isW = true := hw
      have hc := lcM_pure (vs := [3]) (m := gNm 3) (c := cYes) (e := chainM true true opLe opLe (eVar 1) (eVar 3) (eVar 2)) (ρ3 := ρ) (fun _ => true) (fun x => .bool (inB lo hi x)) (src_list (ρ := ρ) (i := 0) rfl) (sm_le h rfl) (fun x hx => by
        have hi' := List.all_eq_true.mp hall x hx
        cases x with
        | int n =>
          refine ⟨[ow (.list ds), ow (.int lo), ow (.int hi), ow (.int n)], rfl, rfl, fun _ => ?_, rfl⟩
          exact fz_eq (chain_bb (x := .fr (.int lo)) (y := .fr (.int n)) (z := .fr (.int hi)) rfl rfl rfl (DL.le_int _ _) (DL.le_int _ _)) rfl
        | _ => cases hi') rfl rfl
      have e : btB lo hi (.list ds) = ds.all (inB lo hi) := by show (ds.all isW && _) = _; rw [hall]; rfl
      rw [e]
      exact runFn_ret (ρ := ρ) ⟨rfl, rfl⟩ (sSeq_eq (sIf_eq c1 rfl) (sRet_eq (all_of hc)))
    | _ => cases hw
def toI : PyData → Int
  | .int n => n
  | _ => 0
def intsOf : PyData → List Int
  | .list ds => ds.map toI
  | _ => []
theorem ints_back {ds : List PyData} (h : ds.all isW = true) : ds = (ds.map toI).map PyData.int := by
  rw [List.map_map]
  conv => lhs; rw [← List.map_id ds]
  refine List.map_congr_left fun x hx => ?_
  have := List.all_eq_true.mp h x hx
  cases x <;> first | rfl | cases this
def risB (ns : List Int) : Bool := ((List.range (ns.length - 1)).map fun t => 1 + t).all fun k => decide (ns.getD (k - 1) 0 < ns.getD k 0)
theorem int_at {ns : List Int} {ρ : MS} {i k : Nat} {q : Bool} {gb : DL.M DL.R} {y : DL.R} {z : Int} (e : ρ[i]? = some (ow (.list (ns.map PyData.int)))) (hb : gb ρ = some (y, ρ)) (hy : look ρ y = some (.fr (.int z))) (hz : z = (k : Int)) (hk : k < ns.length) :
    subs q opIx (eVar i) gb ρ = some (.val (.fr (.int (ns.getD k 0))), ρ) := by
  have hv : eVar i ρ = some (.val (.fr (.list (ns.map PyData.int))), ρ) := by
    show (ρ[i]?.bind Sl.tree?).map _ = _
    rw [e]; rfl
  have hk' : k < (ns.map PyData.int).length := by rw [List.length_map]; exact hk
  subst hz
  have h := opIx_list hk'
  rw [List.getElem_map] at h
  rw [List.getD_eq_getElem?_getD, List.getElem?_eq_getElem hk]
  exact subs_val hv hb hy h
theorem len_list {ds : List PyData} {ρ : MS} {i : Nat} (e : ρ[i]? = some (ow (.list ds))) : un opLen (eVar i) ρ = some (.val (.fr (.int (ds.length : Nat))), ρ) := by
  have hv : eVar i ρ = some (.val (.fr (.list ds)), ρ) := by
    show (ρ[i]?.bind Sl.tree?).map _ = _
    rw [e]; rfl
  exact un_eq hv rfl rfl
theorem rising_gen (ns : List Int) (hl : ns.length ≤ 1000) : f_is_rising [ow (.list (ns.map PyData.int))] = some (.fr (.bool (risB ns)), [.non]) := by
  let ρ : MS := [ow (.list (ns.map PyData.int)), .non]
  have hln := len_list (ds := ns.map PyData.int) (ρ := ρ) (i := 0) rfl
  rw [List.length_map] at hln
  have hsrc : srcR rng2 (aCons (eC (.int 1)) (aCons (un opLen (eVar 0)) aNil)) ρ = some ((natD ((List.range (ns.length - 1)).map fun t => 1 + t), none), ρ) :=
    srcR_eq (ds := [.int 1, .int (ns.length : Int)]) (aCons_eq rfl rfl (aCons_eq hln rfl rfl)) (rng2_one _ (by omega))
  have hc := lcM_nat (vs := [1]) (m := gNm 1) (c := cYes) (e := bin true opLt (subs true opIx (eVar 0) (bin true opSub (eVar 1) (eC (.int 1)))) (subs true opIx (eVar 0) (eVar 1))) (ρ3 := ρ) ((List.range (ns.length - 1)).map fun t => 1 + t) (fun _ => true) (fun k => .bool (decide (ns.getD (k - 1) 0 < ns.getD k 0))) hsrc (by rw [List.length_map, List.length_range, sizeLine_eq]; omega) (fun k hk => by
    obtain ⟨t, ht, rfl⟩ := List.mem_map.mp hk
    have ht := List.mem_range.mp ht
    let ρ2 : MS := [ow (.list (ns.map PyData.int)), ow (.int ((1 + t : Nat) : Int))]
    refine ⟨ρ2, rfl, rfl, fun _ => ?_, rfl⟩
    have b1 := int_at (q := true) (ns := ns) (ρ := ρ2) (i := 0) (k := 1 + t - 1) (gb := bin true opSub (eVar 1) (eC (.int 1))) (y := .val (.fr (.int (((1 + t : Nat) : Int) - 1)))) rfl rfl rfl (by omega) (by omega)
    have b2 := int_at (q := true) (ns := ns) (ρ := ρ2) (i := 0) (k := 1 + t) (gb := eVar 1) (y := .val (.fr (.int ((1 + t : Nat) : Int)))) rfl rfl rfl rfl (by omega)
    exact fz_eq (bin_eq b1 b2 rfl rfl rfl (lt_int _ _)) rfl) rfl rfl
  exact runFn_ret (ρ := ρ) ⟨rfl, rfl⟩ (sRet_eq (all_of hc))
def alW : PyData → Bool
  | .list ds => ds.all arW
  | _ => false
theorem are_lists_ok (d : PyData) (h : SmL d) (h2 : ∀ ds, d = .list ds → ∀ x ∈ ds, SmL x) : f_are_lists_of_wholes [ow d] = some (.fr (.bool (alW d)), [.non]) := by
  let ρ : MS := [ow d, .non]
  obtain ⟨b, c1, hb⟩ := not_list_c (d := d) (ρ := ρ) (i := 0) rfl
  cases b with
  | false =>
    have hn : ∀ ds, d ≠ .list ds := fun ds z => by have := hb.mpr ⟨ds, z⟩; simp at this
    have e : alW d = false := by cases d <;> first | rfl | exact absurd rfl (hn _)
    rw [e]
    exact runFn_ret (ρ := ρ) ⟨rfl, rfl⟩ (sSeq_ret (sIf_eq c1 rfl))
  | true =>
    obtain ⟨ds, rfl⟩ := hb.mp rfl
    have hc := lcM_pure (vs := [1]) (m := gNm 1) (c := cYes) (e := eFnL f_are_wholes (lHere true (eVar 1) aNil)) (ρ3 := ρ) (fun _ => true) (fun x => .bool (arW x)) (src_list (ρ := ρ) (i := 0) rfl) (sm_le h rfl) (fun x hx => by
      refine ⟨[ow (.list ds), ow x], rfl, rfl, fun _ => ?_, rfl⟩
      exact fz_eq (eFnL_fr (i := 1) rfl rfl (are_wholes_ok x (h2 ds rfl x hx))) rfl) rfl rfl
    exact runFn_ret (ρ := ρ) ⟨rfl, rfl⟩ (sSeq_eq (sIf_eq c1 rfl) (sRet_eq (all_of hc)))
end K71

/-! chains: both judges -/
namespace K71
open PySem PySem.Spec PyProof.Rows L2 DL
variable {rs : List Row} {ins : Int} {os sh : PyData}
def shl (n : Nat) : List Nat := (List.range (n - 1)).map fun t => 1 + t
def hngB (rs : List Row) (ns : List Int) : Bool := (shl ns.length).all fun k => RR rs (ns.getD (k - 1) 0).toNat (ns.getD k 0).toNat
def rowsB (many : Int) (d : PyData) : Bool := btB 0 (many - 1) d && risB (intsOf d)
def chainB (rs : List Row) (d : PyData) : Bool := rowsB (rs.length : Nat) d && hngB rs (intsOf d)
theorem all_and {α : Type} {p q : α → Bool} : ∀ xs : List α, (xs.all fun x => p x && q x) = (xs.all p && xs.all q)
  | [] => rfl
  | x :: xs => by
    rw [List.all_cons, List.all_cons, List.all_cons, all_and xs]
    cases p x <;> cases q x <;> simp
theorem mem_shl {n k : Nat} (h : k ∈ shl n) : 1 ≤ k ∧ k < n := by
  obtain ⟨t, ht, rfl⟩ := List.mem_map.mp h
  have := List.mem_range.mp ht
  omega
theorem shl_len (n : Nat) : (shl n).length = n - 1 := by unfold shl; rw [List.length_map, List.length_range]
theorem bt_list {many : Int} {d : PyData} (h : btB 0 (many - 1) d = true) : ∃ ns : List Int, d = .list (ns.map PyData.int) ∧ intsOf d = ns ∧ ∀ n ∈ ns, 0 ≤ n ∧ n < many := by
  cases d with
  | list ds =>
    have h' : (ds.all isW && ds.all (inB 0 (many - 1))) = true := h
    rw [Bool.and_eq_true] at h'
    have e := ints_back h'.1
    refine ⟨ds.map toI, by rw [← e], rfl, fun n hn => ?_⟩
    obtain ⟨x, hx, rfl⟩ := List.mem_map.mp hn
    have h2 := List.all_eq_true.mp h'.2 x hx
    cases x with
    | int m =>
      have h2 : (decide (0 ≤ m) && decide (m ≤ many - 1)) = true := h2
      rw [Bool.and_eq_true, decide_eq_true_eq, decide_eq_true_eq] at h2
      exact ⟨h2.1, by show m < many; omega⟩
    | _ => cases h2
  | _ => cases h
theorem intsOf_map (ns : List Int) : intsOf (.list (ns.map PyData.int)) = ns := by
  show (ns.map PyData.int).map toI = ns
  rw [List.map_map]
  conv => rhs; rw [← List.map_id ns]
  exact List.map_congr_left fun _ _ => rfl
theorem getD_mem {ns : List Int} {k : Nat} (h : k < ns.length) : ns.getD k 0 ∈ ns := by
  rw [List.getD_eq_getElem?_getD, List.getElem?_eq_getElem h]
  exact List.getElem_mem h
theorem none_of {α : Type} {xs : List α} {p : α → Bool} {g : α → PyData} : decide ((((xs.filter p).map g).length : Int) = 0) = xs.all fun x => !p x := by
  rw [List.length_map]
  cases h : xs.all fun x => !p x with
  | true =>
    have : xs.filter p = [] := List.filter_eq_nil_iff.mpr fun a ha => by
      have := List.all_eq_true.mp h a ha
      simpa using this
    rw [this]; rfl
  | false =>
    refine decide_eq_false fun z => ?_
    have hn : xs.filter p = [] := List.eq_nil_of_length_eq_zero (by omega)
    have : (xs.all fun x => !p x) = true := List.all_eq_true.mpr fun a ha => by
      have := List.filter_eq_nil_iff.mp hn a ha
      simpa using this
    rw [h] at this; cases this
theorem len_made {g : DL.M DL.R} {ρ ρ' : MS} {ds : List PyData} (h : g ρ = some (.val (.lst (ds.map T.fr)), ρ')) : un opLen g ρ = some (.val (.fr (.int (ds.length : Nat))), ρ') := by
  refine un_eq h rfl ?_
  show some (T.fr (.int (((ds.map T.fr).length : Nat) : Int))) = _
  rw [List.length_map]
theorem small_le {n : Nat} (h : n ≤ 1000) : n ≤ sizeLine := by rw [sizeLine_eq]; omega
/-- law's own: a list of ascending rows -/
theorem law_are_rows_ok (d : PyData) (many : Int) (h : SmL d) : f__law_are_rows [ow (.int many), ow d] = some (.fr (.bool (rowsB many d)), [.non, .non]) := by
  let ρ : MS := [ow (.int many), ow d, .non, .non]
  obtain ⟨b, c1, hb⟩ := not_list_c (d := d) (ρ := ρ) (i := 1) rfl
  cases b with
  | false =>
    have e : rowsB many d = false := by
      have : btB 0 (many - 1) d = false := by
        cases d <;> first | rfl | (have := hb.mpr ⟨_, rfl⟩; simp at this)
      unfold rowsB; rw [this]; rfl
    rw [e]
    exact runFn_ret (ρ := ρ) ⟨rfl, rfl⟩ (sSeq_ret (sIf_eq (cOr_eq c1 rfl) rfl))
  | true =>
    obtain ⟨ds, rfl⟩ := hb.mp rfl
    have hds := h ds rfl
    have hc := lcM_pure (vs := [3]) (m := gNm 3) (c := cAnd (cTru (eFn f__law_whole (aCons (eVar 3) (aNil)))) (cOf (chainM true true opLe opLt (eC (.int 0)) (eVar 3) (eVar 0)))) (e := eVar 3) (ρ3 := ρ) (fun x => isW x && inB 0 (many - 1) x) (fun x => x) (src_list (ρ := ρ) (i := 1) rfl) (sm_le h rfl) (fun x hx => by
      let ρ2 : MS := [ow (.int many), ow (.list ds), .non, ow x]
      refine ⟨ρ2, rfl, ?_, fun _ => rfl, rfl⟩
      have w1 : cTru (eFn f__law_whole (aCons (eVar 3) aNil)) ρ2 = some (isW x, ρ2) := cTru_eq (eFn_eq (ds := [x]) rfl (law_whole_ok x)) rfl rfl
      refine cAnd_eq w1 ?_
      cases x with
      | int n =>
        have hch := chain_bb (qb := true) (qc := true) (ga := eC (.int 0)) (gb := eVar 3) (gc := eVar 0) (ρ := ρ2) (x := .fr (.int 0)) (y := .fr (.int n)) (z := .fr (.int many)) rfl rfl rfl (DL.le_int _ _) (DL.lt_int _ _)
        have e : decide (n < many) = decide (n ≤ many - 1) := decide_eq_decide.mpr (by omega)
        rw [e] at hch
        exact cOf_eq hch rfl
      | _ => rfl) rfl rfl
    have hn1 := len_made hc
    have hn2 := len_list (ds := ds) (ρ := ρ) (i := 1) rfl
    have c2 := cOf_eq (bin_eq (q := true) hn1 hn2 rfl rfl rfl (opNe_int _ _)) rfl
    rw [List.length_map] at c2
    cases hp : ds.all fun x => isW x && inB 0 (many - 1) x with
    | false =>
      have hne : ¬ ((((ds.filter fun x => isW x && inB 0 (many - 1) x).length : Nat) : Int) = (ds.length : Nat)) := fun z => by
        have := List.length_filter_eq_length_iff.mp (show (ds.filter fun x => isW x && inB 0 (many - 1) x).length = ds.length by omega)
        rw [List.all_eq_true.mpr this] at hp
        cases hp
      rw [decide_eq_false hne] at c2
      have e : rowsB many (.list ds) = false := by
        unfold rowsB
        have : btB 0 (many - 1) (.list ds) = false := by
          show (ds.all isW && ds.all (inB 0 (many - 1))) = false
          rw [← all_and]
          exact hp
        rw [this]; rfl
      rw [e]
      exact runFn_ret (ρ := ρ) ⟨rfl, rfl⟩ (sSeq_ret (sIf_eq (cOr_eq c1 (by rw [if_neg (by simp)]; exact c2)) rfl))
    | true =>
      have heq : ((((ds.filter fun x => isW x && inB 0 (many - 1) x).length : Nat) : Int) = (ds.length : Nat)) := by
        rw [List.length_filter_eq_length_iff.mpr (List.all_eq_true.mp hp)]
      rw [decide_eq_true heq] at c2
      have hbt : btB 0 (many - 1) (.list ds) = true := by
        show (ds.all isW && ds.all (inB 0 (many - 1))) = true
        rw [← all_and]
        exact hp
      obtain ⟨ns, e1, e2, e3⟩ := bt_list hbt
      injection e1 with e1
      subst e1
      have hnl : ns.length ≤ 1000 := by rw [List.length_map] at hds; exact hds
      have hln := len_list (ds := ns.map PyData.int) (ρ := ρ) (i := 1) rfl
      rw [List.length_map] at hln
      have hsrc : srcR rng2 (aCons (eC (.int 1)) (aCons (un opLen (eVar 1)) aNil)) ρ = some ((natD (shl ns.length), none), ρ) :=
        srcR_eq (ds := [.int 1, .int (ns.length : Int)]) (aCons_eq rfl rfl (aCons_eq hln rfl rfl)) (rng2_one _ (by omega))
      have hc3 := lcM_nat (vs := [2]) (m := gNm 2) (c := cOf (bin true opGe (subs true opIx (eVar 1) (bin true opSub (eVar 2) (eC (.int 1)))) (subs true opIx (eVar 1) (eVar 2)))) (e := eVar 2) (ρ3 := ρ) (shl ns.length) (fun k => decide (ns.getD k 0 ≤ ns.getD (k - 1) 0)) (fun k => .int (k : Nat)) hsrc (by rw [shl_len, sizeLine_eq]; omega) (fun k hk => by
        obtain ⟨k1, k2⟩ := mem_shl hk
        let ρ2 : MS := [ow (.int many), ow (.list (ns.map PyData.int)), ow (.int (k : Nat)), .non]
        refine ⟨ρ2, rfl, ?_, fun _ => rfl, rfl⟩
        have b1 := int_at (q := true) (ns := ns) (ρ := ρ2) (i := 1) (k := k - 1) (gb := bin true opSub (eVar 2) (eC (.int 1))) (y := .val (.fr (.int (((k : Nat) : Int) - 1)))) rfl rfl rfl (by omega) (by omega)
        have b2 := int_at (q := true) (ns := ns) (ρ := ρ2) (i := 1) (k := k) (gb := eVar 2) (y := .val (.fr (.int (k : Nat)))) rfl rfl rfl rfl (by omega)
        exact cOf_eq (bin_eq b1 b2 rfl rfl rfl (ge_int _ _)) rfl) rfl rfl
      have hb3 := bin_eq (q := true) (gb := eC (.int 0)) (len_made hc3) rfl rfl rfl rfl (eq_int _ _)
      rw [none_of] at hb3
      have e : rowsB many (.list (ns.map PyData.int)) = (shl ns.length).all fun k => !decide (ns.getD k 0 ≤ ns.getD (k - 1) 0) := by
        unfold rowsB
        rw [hbt, e2, Bool.true_and]
        unfold risB
        refine congrArg (fun f => (shl ns.length).all f) (funext fun k => ?_)
        by_cases hlt : ns.getD (k - 1) 0 < ns.getD k 0
        · rw [decide_eq_true hlt, decide_eq_false (by omega)]; rfl
        · rw [decide_eq_false hlt, decide_eq_true (by omega)]; rfl
      rw [e]
      exact runFn_ret (ρ := ρ) ⟨rfl, rfl⟩ (sSeq_eq (ρ1 := ρ) (sIf_eq (cOr_eq c1 (by rw [if_neg (by simp)]; exact c2)) rfl) (sRet_eq hb3))
theorem rowsB_ints {many : Int} {d : PyData} (h : rowsB many d = true) : ∃ ns : List Int, d = .list (ns.map PyData.int) ∧ intsOf d = ns ∧ (∀ n ∈ ns, 0 ≤ n ∧ n < many) ∧ risB ns = true := by
  unfold rowsB at h
  rw [Bool.and_eq_true] at h
  obtain ⟨ns, e1, e2, e3⟩ := bt_list h.1
  exact ⟨ns, e1, e2, e3, by rw [← e2]; exact h.2⟩
theorem row_at {ns : List Int} {k : Nat} (h : ∀ n ∈ ns, 0 ≤ n ∧ n < (rs.length : Nat)) (hk : k < ns.length) : ∃ j, ∃ hj : j < rs.length, ns.getD k 0 = (j : Int) ∧ (ns.getD k 0).toNat = j ∧ opIx (.fr (rowsD rs)) (.fr (.int (ns.getD k 0))) = some (.fr (rs[j]'hj).enc) := by
  obtain ⟨a, b⟩ := h _ (getD_mem hk)
  refine ⟨(ns.getD k 0).toNat, by omega, by omega, rfl, ?_⟩
  have hj : (ns.getD k 0).toNat < rs.length := by omega
  have := rows_at hj
  rw [show (((ns.getD k 0).toNat : Nat) : Int) = ns.getD k 0 by omega] at this
  exact this
theorem law_is_chain_ok (G : Good rs) (d : PyData) (h : SmL d) : f__law_is_chain [ow (rowsD rs), ow d] = some (.fr (.bool (chainB rs d)), [.non, .non]) := by
  let ρ : MS := [ow (rowsD rs), ow d, .non]
  have hlr := len_list (ds := rs.map Row.enc) (ρ := ρ) (i := 0) rfl
  rw [List.length_map] at hlr
  have c1 : cNot (cTru (eFn f__law_are_rows (aCons (un opLen (eVar 0)) (aCons (eVar 1) (aNil))))) ρ = some (!rowsB (rs.length : Nat) d, ρ) :=
    cNot_eq (cTru_eq (eFn_eq (ds := [.int (rs.length : Nat), d]) (aCons_eq hlr rfl rfl) (law_are_rows_ok d _ h)) rfl rfl)
  unfold chainB
  cases hr : rowsB (rs.length : Nat) d with
  | false =>
    rw [hr] at c1
    exact runFn_ret (ρ := ρ) ⟨rfl, rfl⟩ (sSeq_ret (sIf_eq c1 rfl))
  | true =>
    rw [hr] at c1
    obtain ⟨ns, rfl, e2, e3, e4⟩ := rowsB_ints hr
    have hnl : ns.length ≤ 1000 := by have := h _ rfl; rw [List.length_map] at this; exact this
    have hln := len_list (ds := ns.map PyData.int) (ρ := ρ) (i := 1) rfl
    rw [List.length_map] at hln
    have hsrc : srcR rng2 (aCons (eC (.int 1)) (aCons (un opLen (eVar 1)) aNil)) ρ = some ((natD (shl ns.length), none), ρ) :=
      srcR_eq (ds := [.int 1, .int (ns.length : Int)]) (aCons_eq rfl rfl (aCons_eq hln rfl rfl)) (rng2_one _ (by omega))
    have hc3 := lcM_nat (vs := [2]) (m := gNm 2) (c := cNot (cTru (eFn f__law_hang (aCons (subs true opIx (eVar 0) (subs true opIx (eVar 1) (bin true opSub (eVar 2) (eC (.int 1))))) (aCons (subs true opIx (eVar 0) (subs true opIx (eVar 1) (eVar 2))) (aNil)))))) (e := eVar 2) (ρ3 := ρ) (shl ns.length) (fun k => !RR rs (ns.getD (k - 1) 0).toNat (ns.getD k 0).toNat) (fun k => .int (k : Nat)) hsrc (by rw [shl_len, sizeLine_eq]; omega) (fun k hk => by
      obtain ⟨k1, k2⟩ := mem_shl hk
      let ρ2 : MS := [ow (rowsD rs), ow (.list (ns.map PyData.int)), ow (.int (k : Nat))]
      refine ⟨ρ2, rfl, ?_, fun _ => rfl, rfl⟩
      have b1 := int_at (q := true) (ns := ns) (ρ := ρ2) (i := 1) (k := k - 1) (gb := bin true opSub (eVar 2) (eC (.int 1))) (y := .val (.fr (.int (((k : Nat) : Int) - 1)))) rfl rfl rfl (by omega) (by omega)
      have b2 := int_at (q := true) (ns := ns) (ρ := ρ2) (i := 1) (k := k) (gb := eVar 2) (y := .val (.fr (.int (k : Nat)))) rfl rfl rfl rfl (by omega)
      obtain ⟨i1, hi1, _, t1, r1⟩ := row_at (rs := rs) e3 (k := k - 1) (by omega)
      obtain ⟨i2, hi2, _, t2, r2⟩ := row_at (rs := rs) e3 (k := k) (by omega)
      have a2 : aCons (subs true opIx (eVar 0) (subs true opIx (eVar 1) (bin true opSub (eVar 2) (eC (.int 1))))) (aCons (subs true opIx (eVar 0) (subs true opIx (eVar 1) (eVar 2))) (aNil)) ρ2 = some ([(rs[i1]'hi1).enc, (rs[i2]'hi2).enc], ρ2) :=
        aCons_eq (subs_val rfl b1 rfl r1) rfl (aCons_eq (subs_val rfl b2 rfl r2) rfl rfl)
      rw [t1, t2]
      exact cNot_eq (cTru_eq (eFn_eq a2 (hang2_at G hi1 hi2)) rfl rfl)) rfl rfl
    have hb3 := bin_eq (q := true) (gb := eC (.int 0)) (len_made hc3) rfl rfl rfl rfl (eq_int _ _)
    rw [none_of] at hb3
    have e : (true && hngB rs (intsOf (.list (ns.map PyData.int)))) = (shl ns.length).all fun k => !!RR rs (ns.getD (k - 1) 0).toNat (ns.getD k 0).toNat := by
      rw [e2, Bool.true_and]
      unfold hngB
      simp only [Bool.not_not]
    rw [e]
    exact runFn_ret (ρ := ρ) ⟨rfl, rfl⟩ (sSeq_eq (ρ1 := ρ) (sIf_eq c1 rfl) (sRet_eq hb3))
theorem shows_chain_gen (G : Good rs) (d : PyData) (h : SmL d) : f_shows_chain [ow (coreD ins rs os sh), ow d] = some (.fr (.bool (chainB rs d)), [.non, .non]) := by
  let c0 := coreD ins rs os sh
  let n := rs.length
  let ρ : MS := [ow c0, ow d, ow (rowsD rs), .non]
  have hln := len_list (ds := rs.map Row.enc) (ρ := ρ) (i := 2) rfl
  rw [List.length_map] at hln
  have a1 : aCons (eC (.int 0)) (aCons (bin true opSub (un opLen (eVar 2)) (eC (.int 1))) aNil) ρ = some ([.int 0, .int ((n : Int) - 1)], ρ) := aCons_eq rfl rfl (aCons_eq (bin_eq hln rfl rfl rfl rfl rfl) rfl rfl)
  have c1 : cNot (cTru (eFnL f_are_between (lHere true (eVar 1) (aCons (eC (.int 0)) (aCons (bin true opSub (un opLen (eVar 2)) (eC (.int 1))) aNil))))) ρ = some (!btB 0 ((n : Int) - 1) d, ρ) :=
    cNot_eq (cTru_eq (eFnL_fr (ρ := ρ) (i := 1) rfl a1 (are_between_ok d 0 ((n : Int) - 1) h)) rfl rfl)
  unfold chainB rowsB
  show _ = some (T.fr (.bool (btB 0 ((n : Int) - 1) d && risB (intsOf d) && hngB rs (intsOf d))), [Sl.non, Sl.non])
  cases hb : btB 0 ((n : Int) - 1) d with
  | false =>
    rw [hb] at c1
    exact runFn_ret (ρ := ρ) ⟨rfl, rfl⟩ (sSeq_eq (ρ1 := ρ) rfl (sSeq_ret (sIf_eq (cOr_eq c1 rfl) rfl)))
  | true =>
    rw [hb] at c1
    obtain ⟨ns, rfl, e2, e3⟩ := bt_list hb
    have hnl : ns.length ≤ 1000 := by have := h _ rfl; rw [List.length_map] at this; exact this
    rw [e2]
    have c2 : cNot (cTru (eFnL f_is_rising (lHere true (eVar 1) aNil))) ρ = some (!risB ns, ρ) := cNot_eq (cTru_eq (eFnL_fr (ρ := ρ) (i := 1) rfl rfl (rising_gen ns hnl)) rfl rfl)
    cases hr : risB ns with
    | false =>
      rw [hr] at c2
      exact runFn_ret (ρ := ρ) ⟨rfl, rfl⟩ (sSeq_eq (ρ1 := ρ) rfl (sSeq_ret (sIf_eq (cOr_eq c1 (by rw [if_neg (by simp)]; exact c2)) rfl)))
    | true =>
      rw [hr] at c2
      have hlF := len_list (ds := ns.map PyData.int) (ρ := ρ) (i := 1) rfl
      rw [List.length_map] at hlF
      have hsrc : srcR rng1 (aCons (bin true opSub (un opLen (eVar 1)) (eC (.int 1))) aNil) ρ = some ((natD (List.range (ns.length - 1)), none), ρ) := by
        refine srcR_eq (ds := [.int ((ns.length : Int) - 1)]) (aCons_eq (bin_eq hlF rfl rfl rfl rfl rfl) rfl rfl) ?_
        unfold rng1
        show (if _ then _ else _) = _
        rw [if_pos (bnd_small (by omega) (by omega))]
        refine congrArg some (?_ : rngD 0 ((ns.length : Int) - 1).toNat = natD (List.range (ns.length - 1)))
        unfold rngD natD
        rw [show ((ns.length : Int) - 1).toNat = ns.length - 1 by omega]
        exact List.map_congr_left fun k _ => by rw [Int.zero_add]
      have hc := lcM_nat (vs := [3]) (m := gNm 3) (c := cYes) (e := eFn f_hang_together (aCons (subs true opIx (eVar 2) (subs true opIx (eVar 1) (eVar 3))) (aCons (subs true opIx (eVar 2) (subs true opIx (eVar 1) (bin true opAdd (eVar 3) (eC (.int 1))))) aNil))) (ρ3 := ρ) (List.range (ns.length - 1)) (fun _ => true) (fun k => .bool (RR rs (ns.getD k 0).toNat (ns.getD (k + 1) 0).toNat)) hsrc (by rw [List.length_range]; exact small_le (by omega)) (fun k hk => by
        have hk := List.mem_range.mp hk
        let ρ2 : MS := [ow c0, ow (.list (ns.map PyData.int)), ow (rowsD rs), ow (.int (k : Nat))]
        refine ⟨ρ2, rfl, rfl, fun _ => ?_, rfl⟩
        have b1 := int_at (q := true) (ns := ns) (ρ := ρ2) (i := 1) (k := k) (gb := eVar 3) (y := .val (.fr (.int (k : Nat)))) rfl rfl rfl rfl (by omega)
        have b2 := int_at (q := true) (ns := ns) (ρ := ρ2) (i := 1) (k := k + 1) (gb := bin true opAdd (eVar 3) (eC (.int 1))) (y := .val (.fr (.int (((k : Nat) : Int) + 1)))) rfl rfl rfl (by omega) (by omega)
        obtain ⟨i1, hi1, _, t1, r1⟩ := row_at (rs := rs) e3 (k := k) (by omega)
        obtain ⟨i2, hi2, _, t2, r2⟩ := row_at (rs := rs) e3 (k := k + 1) (by omega)
        have a2 : aCons (subs true opIx (eVar 2) (subs true opIx (eVar 1) (eVar 3))) (aCons (subs true opIx (eVar 2) (subs true opIx (eVar 1) (bin true opAdd (eVar 3) (eC (.int 1))))) aNil) ρ2 = some ([(rs[i1]'hi1).enc, (rs[i2]'hi2).enc], ρ2) :=
          aCons_eq (subs_val rfl b1 rfl r1) rfl (aCons_eq (subs_val rfl b2 rfl r2) rfl rfl)
        rw [t1, t2]
        exact fz_eq (eFn_eq a2 (hang_at G hi1 hi2)) rfl) rfl rfl
      have e : (true && true && hngB rs ns) = (List.range (ns.length - 1)).all fun k => RR rs (ns.getD k 0).toNat (ns.getD (k + 1) 0).toNat := by
        show hngB rs ns = _
        unfold hngB shl
        rw [List.all_map]
        refine congrArg (fun f => (List.range (ns.length - 1)).all f) (funext fun k => ?_)
        show RR rs (ns.getD (1 + k - 1) 0).toNat (ns.getD (1 + k) 0).toNat = _
        rw [show 1 + k - 1 = k by omega, show 1 + k = k + 1 by omega]
      rw [e]
      exact runFn_ret (ρ := ρ) ⟨rfl, rfl⟩ (sSeq_eq (ρ1 := ρ) rfl (sSeq_eq (ρ1 := ρ) (sIf_eq (cOr_eq c1 (by rw [if_neg (by simp)]; exact c2)) rfl) (sRet_eq (all_of hc))))
end K71

/-! steps: the program's judge -/
namespace K71
open PySem PySem.Spec PyProof.Rows L2 DL
variable {rs : List Row} {ins : Int} {os sh : PyData}
def lvl (LN : List (List Nat)) (k : Nat) : Nat := LN.findIdx fun row => row.contains k
def pairsB (rs : List Row) (LN : List (List Nat)) : Bool := (List.range rs.length).all fun j => ((List.range j).filter fun i => RR rs i j).all fun i => decide (lvl LN i < lvl LN j)
/-- each row in one step -/
structure Part (n : Nat) (LN : List (List Nat)) : Prop where
  lv : ∀ l (h : l < LN.length), ∀ x ∈ LN[l], lvl LN x = l
  cov : ∀ a, a < n → ∃ l, ∃ h : l < LN.length, a ∈ LN[l]
  len : LN.length ≤ 60
  each : ∀ xs ∈ LN, xs.length ≤ 60
def mTab : DL.M Fl := sFor (srcV T.asEnum (eVar 1)) (gTp 2 (gC (gNm 5) (gC (gNm 6) (gN0)))) (sFor (srcV T.asList (eVar 6)) (gNm 7) (sPut true putAny (eVar 5) (eVar 3) (eVar 7)))
theorem LD_len (LN : List (List Nat)) : (LD LN).length = LN.length := List.length_map _
theorem LD_at {LN : List (List Nat)} {l : Nat} (h : l < LN.length) : (LD LN)[l]'(by rw [LD_len]; exact h) = .list (natD LN[l]) := (List.getElem_of_eq (show LD LN = LN.map fun xs => .list (natD xs) from rfl) _).trans (List.getElem_map _)
theorem table_ok {n : Nat} {LN : List (List Nat)} (P : Part n LN) {c0 : PyData} : ∃ kv s5 s6 s7, (∀ a, a < n → a ∈ kv) ∧ Fre s5 ∧ Fre s6 ∧ Fre s7 ∧ mTab [ow c0, ow (.list (LD LN)), ow (rowsD rs), .own (.dic [] []), .non, .non, .non, .non, .non, .non]
    = some (.nx, [ow c0, ow (.list (LD LN)), ow (rowsD rs), .own (dT (fun a => .int ((lvl LN a : Nat) : Int)) kv), .non, s5, s6, s7, .non, .non]) := by
  let v : Nat → PyData := fun a => .int ((lvl LN a : Nat) : Int)
  let s : Sl := ow (.list (LD LN))
  let ρ1 : MS := [ow c0, s, ow (rowsD rs), .own (.dic [] []), .non, .non, .non, .non, .non, .non]
  have hsrc : srcV T.asEnum (eVar 1) ρ1 = some (((LD LN).zipIdx.map fun z => PyData.tuple [.int (z.2 : Nat), z.1], none), ρ1) := srcV_eq (x := .val (.fr (.list (LD LN)))) (t := .fr (.list (LD LN))) rfl rfl rfl
  let S : Nat → MS → Prop := fun l ρ => ∃ kv s5 s6 s7, (∀ a, a < n → lvl LN a < l → a ∈ kv) ∧ kv.length ≤ 60 * l ∧ Fre s5 ∧ Fre s6 ∧ Fre s7 ∧ ρ = [ow c0, s, ow (rowsD rs), .own (dT v kv), .non, s5, s6, s7, .non, .non]
  have hzl : ((LD LN).zipIdx.map fun z => PyData.tuple [.int (z.2 : Nat), z.1]).length = LN.length := by simp [LD_len]
  obtain ⟨ρ', ρ3, ⟨kv, s5, s6, s7, k1, k2, f5, f6, f7, e⟩, hu, hf⟩ := sFor_inv (m := gTp 2 (gC (gNm 5) (gC (gNm 6) (gN0)))) (n := sFor (srcV T.asList (eVar 6)) (gNm 7) (sPut true putAny (eVar 5) (eVar 3) (eVar 7)))
    hsrc S ⟨[], .non, .non, .non, fun a _ h => by omega, Nat.zero_le _, .inl rfl, .inl rfl, .inl rfl, rfl⟩ (fun l ρ hl hS => by
      obtain ⟨kv, s5, s6, s7, k1, k2, f5, f6, f7, rfl⟩ := hS
      have hl' : l < LN.length := by rw [hzl] at hl; exact hl
      let xs := LN[l]
      have hxl : xs.length ≤ 60 := P.each _ (List.getElem_mem _)
      have el : ((LD LN).zipIdx.map fun z => PyData.tuple [.int (z.2 : Nat), z.1])[l]'hl = .tuple [.int (l : Nat), .list (natD xs)] := by
        simp only [List.getElem_map, List.getElem_zipIdx, Nat.zero_add]
        rw [LD_at hl']
      let ρa : MS := [ow c0, s, ow (rowsD rs), .own (dT v kv), .non, ow (.int (l : Nat)), ow (.list (natD xs)), s7, .non, .non]
      have hs2 : srcV T.asList (eVar 6) ρa = some ((natD xs, none), ρa) := rfl
      let S2 : Nat → MS → Prop := fun j ρ => ∃ kv' s7, (∀ a ∈ kv, a ∈ kv') ∧ (∀ a ∈ xs.take j, a ∈ kv') ∧ kv'.length ≤ kv.length + j ∧ Fre s7 ∧ ρ = [ow c0, s, ow (rowsD rs), .own (dT v kv'), .non, ow (.int (l : Nat)), ow (.list (natD xs)), s7, .non, .non]
      have hll := P.len
      obtain ⟨ρ4, ρ5, ⟨kv', s7', q1, q2, q3, g7, e4⟩, hu2, hf2⟩ := sFor_inv (m := gNm 7) (n := sPut true putAny (eVar 5) (eVar 3) (eVar 7)) hs2 S2
        ⟨kv, s7, fun a m => m, fun a m => by simp at m, Nat.le_refl _, f7, rfl⟩ (fun j ρ hj hS => by
          obtain ⟨kv', s7, q1, q2, q3, g7, rfl⟩ := hS
          have hj' : j < xs.length := by rw [natD_len] at hj; exact hj
          let a := xs[j]
          have ha : lvl LN a = l := P.lv l hl' a (List.getElem_mem _)
          let ρb : MS := [ow c0, s, ow (rowsD rs), .own (dT v kv'), .non, ow (.int (l : Nat)), ow (.list (natD xs)), ow (.int (a : Nat)), .non, .non]
          have hput := put_dT (v := v) (kv := kv') (a := a) (by rw [sizeLine_eq]; omega)
          have hp := put_gen (qb := true) (g := eVar 5) (ga := eVar 3) (gb := eVar 7) (ρ := ρb) (i := 3) (s := .own (dT v kv')) (t := dT v kv') (u := .fr (.int (a : Nat))) (d := v a) (t' := dT v (addK kv' a)) (by show some (PyData.int (l : Nat), ρb) = some (PyData.int ((lvl LN a : Nat) : Int), ρb); rw [ha]) rfl rfl rfl rfl rfl hput
          have hadd : ∀ x, x ∈ kv' → x ∈ addK kv' a := fun x hx => by
            unfold addK
            split
            · exact hx
            · exact List.mem_append_left _ hx
          have hself : a ∈ addK kv' a := by
            unfold addK
            split
            · assumption
            · simp
          refine ⟨ρb, _, ?_, .inl hp, addK kv' a, _, fun x hx => hadd x (q1 x hx), fun x hx => ?_, ?_, .inr ⟨_, rfl⟩, rfl⟩
          · rw [natD_get hj]
            rcases g7 with rfl | ⟨d, rfl⟩ <;> rfl
          · rw [List.take_add_one, List.getElem?_eq_getElem hj'] at hx
            rcases List.mem_append.mp hx with hx | hx
            · exact hadd x (q2 x hx)
            · have : x = a := by simpa using hx
              rw [this]; exact hself
          · unfold addK
            split
            · omega
            · rw [List.length_append]; simp; omega) (fun ρ' _ => ⟨ρ', rfl⟩)
      rw [natD_len] at q2 q3
      subst e4
      have hu2 := Option.some.inj hu2
      subst hu2
      refine ⟨ρa, _, ?_, .inl hf2, kv', _, _, _, fun a ha hla => ?_, by omega, .inr ⟨_, rfl⟩, .inr ⟨_, rfl⟩, g7, rfl⟩
      · rw [el]
        rcases f5 with rfl | ⟨d5, rfl⟩ <;> rcases f6 with rfl | ⟨d6, rfl⟩ <;> rfl
      · by_cases hla' : lvl LN a < l
        · exact q1 a (k1 a ha hla')
        · refine q2 a ?_
          rw [List.take_length]
          obtain ⟨l2, h2, m2⟩ := P.cov a ha
          have := P.lv l2 h2 a m2
          have hl2 : l2 = l := by omega
          subst hl2
          exact m2) (fun ρ' hS => ⟨ρ', rfl⟩)
  subst e
  have hu := Option.some.inj hu
  subst hu
  refine ⟨kv, s5, s6, s7, fun a ha => k1 a ha ?_, f5, f6, f7, hf⟩
  rw [hzl]
  obtain ⟨l2, h2, m2⟩ := P.cov a ha
  rw [P.lv l2 h2 a m2]
  exact h2
def pq (f : Nat → Nat) : PyData → Bool
  | .tuple [.int i, .int j] => decide (f i.toNat < f j.toNat)
  | _ => false
theorem pairs_all (rs : List Row) (LN : List (List Nat)) : ((natD (List.range rs.length)).map (pairsF (RR rs))).flatten.all (pq (lvl LN)) = pairsB rs LN := by
  unfold pairsB natD
  rw [List.map_map, List.all_flatten, List.all_map]
  refine congrArg (fun f => (List.range rs.length).all f) (funext fun j => ?_)
  show ((((List.range j).filter fun i => RR rs i j).map fun i => PyData.tuple [.int (i : Nat), .int (((j : Int).toNat : Nat) : Int)])).all (pq (lvl LN)) = _
  rw [List.all_map]
  rfl
def mTail : DL.M Fl := (sSeq (sSet 3 (eDic))
  (sSeq (sFor (srcV T.asEnum (eVar 1)) (gTp 2 (gC (gNm 5) (gC (gNm 6) (gN0)))) (sFor (srcV T.asList (eVar 6)) (gNm 7) (sPut true putAny (eVar 5) (eVar 3) (eVar 7))))
  (sSeq (sSet 4 (lc2M (srcR rng1 (aCons (un opLen (eVar 2)) (aNil))) [8, 9] [9] (gNm 8) (cYes) (srcR rng1 (aCons (eVar 8) (aNil))) (gNm 9) (cTru (eFn f_hang_together (aCons (subs true opIx (eVar 2) (eVar 9)) (aCons (subs true opIx (eVar 2) (eVar 8)) (aNil))))) (eTup (aCons (eVar 9) (aCons (eVar 8) (aNil))))))
  (sRet (un opAll (lcM (srcV T.asList (eVar 4)) [9, 8] (gTp 2 (gC (gNm 9) (gC (gNm 8) (gN0)))) (cYes) (bin true opLt (subs true opIx (eVar 3) (eVar 9)) (subs true opIx (eVar 3) (eVar 8)))))))))
theorem tail_ok (G : Good rs) {LN : List (List Nat)} (P : Part rs.length LN) {c0 : PyData} : ∃ ρ', mTail [ow c0, ow (.list (LD LN)), ow (rowsD rs), .non, .non, .non, .non, .non, .non, .non] = some (.rt (.val (.fr (.bool (pairsB rs LN)))), ρ') ∧ pinsOf 2 ρ' = [.non, .non] := by
  let R := RR rs
  let n := rs.length
  have hn : n ≤ 60 := G.1
  let s : Sl := ow (.list (LD LN))
  obtain ⟨kv, s5, s6, s7, hkv, f5, f6, f7, hft⟩ := table_ok (rs := rs) P (c0 := c0)
  let v : Nat → PyData := fun a => .int ((lvl LN a : Nat) : Int)
  let ρ2 : MS := [ow c0, s, ow (rowsD rs), .own (dT v kv), .non, s5, s6, s7, .non, .non]
  have hln := len_list (ds := rs.map Row.enc) (ρ := ρ2) (i := 2) rfl
  rw [List.length_map] at hln
  let PL := ((natD (List.range n)).map (pairsF R)).flatten
  have hPL : PL.length ≤ sizeLine := by
    have := flat_len (f := pairsF R) (b := 60) (xs := natD (List.range n)) fun d hd => by
      obtain ⟨j, hj, rfl⟩ := List.mem_map.mp hd
      have hj := List.mem_range.mp hj
      show (((List.range j).filter fun i => R i j).map _).length ≤ 60
      rw [List.length_map]
      have h1 := List.length_filter_le (fun i => R i j) (List.range j)
      rw [List.length_range] at h1
      omega
    rw [natD_len, List.length_range] at this
    rw [sizeLine_eq]
    show (((natD (List.range n)).map (pairsF R)).flatten).length ≤ _
    have : n * 60 ≤ 3600 := Nat.mul_le_mul_right 60 hn
    omega
  have hc4 : lc2M (srcR rng1 (aCons (un opLen (eVar 2)) (aNil))) [8, 9] [9] (gNm 8) (cYes) (srcR rng1 (aCons (eVar 8) (aNil))) (gNm 9) (cTru (eFn f_hang_together (aCons (subs true opIx (eVar 2) (eVar 9)) (aCons (subs true opIx (eVar 2) (eVar 8)) (aNil))))) (eTup (aCons (eVar 9) (aCons (eVar 8) (aNil)))) ρ2
      = some (.val (.lst (PL.map T.fr)), ρ2) := by
    refine lc2M_eq (hd := none) (ρ1 := ρ2) (pairsF R) (srcR_eq (ds := [.int (n : Int)]) (aCons_eq hln rfl rfl) (rng1_nat (by omega))) (fun d hd => ?_) rfl hPL rfl
    obtain ⟨j, hj, rfl⟩ := List.mem_map.mp hd
    have hj := List.mem_range.mp hj
    let ρa : MS := [ow c0, s, ow (rowsD rs), .own (dT v kv), .non, s5, s6, s7, ow (.int (j : Nat)), .non]
    obtain ⟨ρz, a, b⟩ := lcLoop_nat (vs := [9]) (m := gNm 9) (c := cTru (eFn f_hang_together (aCons (subs true opIx (eVar 2) (eVar 9)) (aCons (subs true opIx (eVar 2) (eVar 8)) (aNil))))) (e := eTup (aCons (eVar 9) (aCons (eVar 8) (aNil)))) (ρ := ρa) (List.range j) (fun i => R i j) (fun i => .tuple [.int (i : Nat), .int (j : Nat)]) fun i hi => by
      have hi := List.mem_range.mp hi
      let ρb : MS := [ow c0, s, ow (rowsD rs), .own (dT v kv), .non, s5, s6, s7, ow (.int (j : Nat)), ow (.int (i : Nat))]
      refine ⟨ρb, rfl, ?_, fun _ => rfl, rfl⟩
      have a1 : aCons (subs true opIx (eVar 2) (eVar 9)) (aCons (subs true opIx (eVar 2) (eVar 8)) aNil) ρb = some ([(rs[i]'(by show i < n; omega)).enc, (rs[j]'hj).enc], ρb) :=
        aCons_eq (subs_val rfl rfl rfl (rows_at (by show i < n; omega))) rfl (aCons_eq (subs_val rfl rfl rfl (rows_at hj)) rfl rfl)
      exact cTru_eq (eFn_eq a1 (hang_at G (by show i < n; omega) hj)) rfl rfl
    exact ⟨ρa, ρa, natD (List.range j), none, ρz, wipeM [9] ρz, rfl, rfl, srcR_eq (ds := [.int (j : Int)]) rfl (rng1_nat (by omega)), a, rfl, by rw [b]; rfl⟩
  let ρ3 : MS := [ow c0, s, ow (rowsD rs), .own (dT v kv), .own (.lst (PL.map T.fr)), s5, s6, s7, .non, .non]
  have s4 : sSet 4 _ ρ2 = some (.nx, ρ3) := sSet_val (i := 4) (ρ1 := ρ2) hc4 rfl
  have hs5 : srcV T.asList (eVar 4) ρ3 = some ((PL, some 4), ρ3) := srcV_eq (x := .bor 4 []) rfl rfl (view_list _)
  have hc5 := lcM_pure (vs := [9, 8]) (m := gTp 2 (gC (gNm 9) (gC (gNm 8) (gN0)))) (c := cYes) (e := bin true opLt (subs true opIx (eVar 3) (eVar 9)) (subs true opIx (eVar 3) (eVar 8))) (ρ3 := ρ3) (fun _ => true) (fun x => .bool (pq (lvl LN) x)) hs5 hPL (fun d hd => by
    obtain ⟨i, j, hij, hj, hR, rfl⟩ := mem_pairs hd
    let ρb : MS := [ow c0, s, ow (rowsD rs), .own (dT v kv), .hid, s5, s6, s7, ow (.int (j : Nat)), ow (.int (i : Nat))]
    refine ⟨ρb, rfl, rfl, fun _ => ?_, rfl⟩
    have b1 := subs_dic (q := true) (f := opIx) (ga := eVar 3) (gb := eVar 9) (ρ := ρb) (i := 3) rfl rfl rfl rfl (get_dT (v := v) (hkv i (by omega)))
    have b2 := subs_dic (q := true) (f := opIx) (ga := eVar 3) (gb := eVar 8) (ρ := ρb) (i := 3) rfl rfl rfl rfl (get_dT (v := v) (hkv j hj))
    refine fz_eq (bin_eq b1 b2 rfl rfl rfl (DL.lt_int _ _)) ?_
    show some (PyData.bool (decide (((lvl LN i : Nat) : Int) < ((lvl LN j : Nat) : Int))), ρb) = some (PyData.bool (decide (lvl LN i < lvl LN j)), ρb)
    rw [show decide (((lvl LN i : Nat) : Int) < ((lvl LN j : Nat) : Int)) = decide (lvl LN i < lvl LN j) from decide_eq_decide.mpr (by omega)]) rfl rfl
  have hall := all_of hc5
  rw [pairs_all] at hall
  exact ⟨ρ3, sSeq_eq (ρ1 := [ow c0, s, ow (rowsD rs), .own (.dic [] []), .non, .non, .non, .non, .non, .non]) rfl (sSeq_eq hft (sSeq_eq s4 (sRet_eq hall))), rfl⟩
end K71

/-! steps: the program's judge, of any data -/
namespace K71
open PySem PySem.Spec PyProof.Rows L2 DL
variable {rs : List Row} {ins : Int} {os sh : PyData}
theorem eqv_ints : ∀ ns ms : List Int, PyData.eqvAll (ns.map PyData.int) (ms.map PyData.int) = decide (ns = ms)
  | [], [] => rfl
  | [], _ :: _ => rfl
  | _ :: _, [] => rfl
  | n :: ns, m :: ms => by
    show (PyData.eqv (.int n) (.int m) && PyData.eqvAll (ns.map PyData.int) (ms.map PyData.int)) = _
    rw [eqv_ints ns ms, eqv_int]
    by_cases h : n = m
    · subst h
      by_cases h2 : ns = ms
      · subst h2; simp
      · simp [h2]
    · simp [h]
theorem ne_ints (ns ms : List Int) : opNe (.lst ((ns.map PyData.int).map T.fr)) (.lst ((ms.map PyData.int).map T.fr)) = some (.fr (.bool (!decide (ns = ms)))) := by
  unfold opNe
  rw [erase_lst, Option.bind_some, erase_lst, Option.bind_some]
  unfold eqD
  rw [if_neg (show ¬ scalD (.list (ns.map PyData.int)) (.list (ms.map PyData.int)) = true from Bool.false_ne_true), shaped_ints, shaped_ints, if_pos (show (true && true) = true from rfl)]
  show some (T.fr (.bool (!PyData.eqvAll (ns.map PyData.int) (ms.map PyData.int)))) = _
  rw [eqv_ints]
def LI (L : List (List Int)) : List PyData := L.map fun ns => .list (ns.map PyData.int)
def itemsOf : PyData → List PyData
  | .list ds => ds
  | _ => []
def risAll (d : PyData) : Bool := (itemsOf d).all fun x => risB (intsOf x)
def rowsI (d : PyData) : List (List Int) := (itemsOf d).map intsOf
def permB (n : Nat) (d : PyData) : Bool := decide (sortI (rowsI d).flatten = (List.range n).map fun (k : Nat) => (k : Int))
def natRows (d : PyData) : List (List Nat) := (rowsI d).map fun ns => ns.map Int.toNat
def stepsB (rs : List Row) (d : PyData) : Bool := alW d && (risAll d && (permB rs.length d && pairsB rs (natRows d)))
def Sm2 (d : PyData) : Prop := ∀ ds, d = .list ds → ds.length ≤ 60 ∧ ∀ x ∈ ds, ∀ es, x = .list es → es.length ≤ 60
theorem Sm2.sm {d : PyData} (h : Sm2 d) : SmL d := fun ds e => by have := (h ds e).1; omega
theorem Sm2.kid {d : PyData} (h : Sm2 d) {ds : List PyData} (e : d = .list ds) : ∀ x ∈ ds, SmL x := fun x hx es e2 => by have := (h ds e).2 x hx es e2; omega
theorem al_list {d : PyData} (h : alW d = true) : ∃ L : List (List Int), d = .list (LI L) ∧ rowsI d = L := by
  cases d with
  | list ds =>
    have h : ds.all arW = true := h
    refine ⟨ds.map intsOf, ?_, rfl⟩
    congr 1
    unfold LI
    rw [List.map_map]
    conv => lhs; rw [← List.map_id ds]
    refine List.map_congr_left fun x hx => ?_
    have := List.all_eq_true.mp h x hx
    cases x with
    | list es => show PyData.list es = .list ((es.map toI).map PyData.int); rw [← ints_back this]
    | _ => cases this
  | _ => cases h
theorem sub_flat (L : List (List Int)) : ((LI L).map sub1).flatten = L.flatten.map PyData.int := by
  unfold LI
  rw [List.map_map, List.map_flatten]
  rfl
theorem risAll_LI (L : List (List Int)) : risAll (.list (LI L)) = L.all risB := by
  show ((LI L).all fun x => risB (intsOf x)) = _
  unfold LI
  rw [List.all_map]
  refine congrArg (fun f => L.all f) (funext fun ns => ?_)
  show risB (intsOf (.list (ns.map PyData.int))) = _
  rw [intsOf_map]
theorem rowsI_LI (L : List (List Int)) : rowsI (.list (LI L)) = L := by
  show (LI L).map intsOf = L
  unfold LI
  rw [List.map_map]
  conv => rhs; rw [← List.map_id L]
  exact List.map_congr_left fun ns _ => intsOf_map ns
theorem perm_of {n : Nat} {L : List (List Int)} (h : sortI L.flatten = (List.range n).map fun (k : Nat) => (k : Int)) : L.flatten.Perm ((List.range n).map fun (k : Nat) => (k : Int)) := by
  rw [← h]
  exact (sortI_perm _).symm
theorem toNat_back {n : Nat} {L : List (List Int)} (h : ∀ ns ∈ L, ∀ z ∈ ns, (0 : Int) ≤ z) : LI L = LD (L.map fun ns => ns.map Int.toNat) := by
  unfold LI LD
  rw [List.map_map]
  refine List.map_congr_left fun ns hns => ?_
  show PyData.list (ns.map PyData.int) = .list (natD (ns.map Int.toNat))
  unfold natD
  rw [List.map_map]
  congr 1
  refine List.map_congr_left fun z hz => ?_
  show PyData.int z = .int ((z.toNat : Nat) : Int)
  have := h ns hns z hz
  congr 1
  omega
theorem part_of {n : Nat} {L : List (List Int)} (h : sortI L.flatten = (List.range n).map fun (k : Nat) => (k : Int)) (hl : L.length ≤ 60) (he : ∀ ns ∈ L, ns.length ≤ 60) :
    LI L = LD (L.map fun ns => ns.map Int.toNat) ∧ Part n (L.map fun ns => ns.map Int.toNat) ∧ (L.map fun ns => ns.map Int.toNat).flatten.Perm (List.range n) := by
  have hp := perm_of h
  have hin : ∀ ns ∈ L, ∀ z ∈ ns, (0 : Int) ≤ z := fun ns hns z hz => by
    have := hp.mem_iff.mp (List.mem_flatten.mpr ⟨ns, hns, hz⟩)
    obtain ⟨k, _, rfl⟩ := List.mem_map.mp this
    omega
  let LN := L.map fun ns => ns.map Int.toNat
  have hf : LN.flatten = L.flatten.map Int.toNat := by
    show (L.map fun ns => ns.map Int.toNat).flatten = _
    rw [List.map_flatten]
  have hp2 : LN.flatten.Perm (List.range n) := by
    rw [hf]
    have := hp.map Int.toNat
    rw [List.map_map] at this
    have e : (List.range n).map (Int.toNat ∘ fun (k : Nat) => (k : Int)) = List.range n := by
      conv => rhs; rw [← List.map_id (List.range n)]
      exact List.map_congr_left fun k _ => by show ((k : Int)).toNat = k; omega
    rw [e] at this
    exact this
  have hnd : LN.flatten.Nodup := hp2.nodup_iff.mpr List.nodup_range
  refine ⟨toNat_back (n := n) hin, ⟨fun l hl2 x hx => ?_, fun a ha => ?_, by rw [List.length_map]; exact hl, fun xs hxs => ?_⟩, hp2⟩
  · unfold lvl
    refine (List.findIdx_eq hl2).mpr ⟨by simpa using hx, fun j hj => ?_⟩
    have hpw := (List.pairwise_flatten.mp hnd).2
    have hlt : j < LN.length := by have : l < LN.length := hl2; omega
    have := List.pairwise_iff_getElem.mp hpw j l hlt hl2 hj
    cases hc : (LN[j]'hlt).contains x with
    | false => rfl
    | true => exact absurd rfl (this x (by simpa using hc) x hx)
  · have := hp2.mem_iff.mpr (List.mem_range.mpr ha)
    obtain ⟨xs, h1, h2⟩ := List.mem_flatten.mp this
    obtain ⟨l, hl2, rfl⟩ := List.getElem_of_mem h1
    exact ⟨l, hl2, h2⟩
  · obtain ⟨ns, hns, rfl⟩ := List.mem_map.mp hxs
    rw [List.length_map]
    exact he ns hns
theorem shows_steps_gen (G : Good rs) (d : PyData) (h : Sm2 d) : f_shows_steps [ow (coreD ins rs os sh), ow d] = some (.fr (.bool (stepsB rs d)), [.non, .non]) := by
  let c0 := coreD ins rs os sh
  let n := rs.length
  have hn : n ≤ 60 := G.1
  let ρ : MS := [ow c0, ow d, ow (rowsD rs), .non, .non, .non, .non, .non, .non, .non]
  have hln := len_list (ds := rs.map Row.enc) (ρ := ρ) (i := 2) rfl
  rw [List.length_map] at hln
  have c1 : cNot (cTru (eFnL f_are_lists_of_wholes (lHere true (eVar 1) (aNil)))) ρ = some (!alW d, ρ) := cNot_eq (cTru_eq (eFnL_fr (ρ := ρ) (i := 1) rfl rfl (are_lists_ok d h.sm fun ds e => h.kid e)) rfl rfl)
  unfold stepsB
  cases ha : alW d with
  | false =>
    rw [ha] at c1
    exact runFn_ret (ρ := ρ) ⟨rfl, rfl⟩ (sSeq_eq (ρ1 := ρ) rfl (sSeq_ret (sIf_eq (cOr_eq c1 rfl) rfl)))
  | true =>
    rw [ha] at c1
    obtain ⟨L, rfl, hL⟩ := al_list ha
    have hb := h _ rfl
    have hLl : L.length ≤ 60 := by have := hb.1; unfold LI at this; rw [List.length_map] at this; exact this
    have hLe : ∀ ns ∈ L, ns.length ≤ 60 := fun ns hns => by
      have := hb.2 (.list (ns.map PyData.int)) (List.mem_map.mpr ⟨ns, hns, rfl⟩) _ rfl
      rw [List.length_map] at this; exact this
    have hc2 := lcM_pure (vs := [6]) (m := gNm 6) (c := cYes) (e := eFnL f_is_rising (lHere true (eVar 6) (aNil))) (ρ3 := ρ) (fun _ => true) (fun x => .bool (risB (intsOf x))) (src_list (ρ := ρ) (i := 1) rfl) (sm_le h.sm rfl) (fun x hx => by
      obtain ⟨ns, hns, rfl⟩ := List.mem_map.mp hx
      refine ⟨[ow c0, ow (.list (LI L)), ow (rowsD rs), .non, .non, .non, ow (.list (ns.map PyData.int)), .non, .non, .non], rfl, rfl, fun _ => ?_, rfl⟩
      rw [intsOf_map]
      exact fz_eq (eFnL_fr (i := 6) rfl rfl (rising_gen ns (by have := hLe ns hns; omega))) rfl) rfl rfl
    have c2 : cNot (cTru (un opAll (lcM (srcV T.asList (eVar 1)) [6] (gNm 6) (cYes) (eFnL f_is_rising (lHere true (eVar 6) (aNil)))))) ρ = some (!risAll (.list (LI L)), ρ) := cNot_eq (cTru_eq (all_of hc2) rfl rfl)
    cases hr : risAll (.list (LI L)) with
    | false =>
      rw [hr] at c2
      exact runFn_ret (ρ := ρ) ⟨rfl, rfl⟩ (sSeq_eq (ρ1 := ρ) rfl (sSeq_ret (sIf_eq (cOr_eq c1 (by rw [if_neg (by simp)]; exact c2)) rfl)))
    | true =>
      rw [hr] at c2
      have hfl : (((LI L).map sub1).flatten).length ≤ sizeLine := by
        have hl := flat_len (f := sub1) (b := 60) (xs := LI L) fun x hx => by
          obtain ⟨ns, hns, rfl⟩ := List.mem_map.mp hx
          show (ns.map PyData.int).length ≤ 60
          rw [List.length_map]
          exact hLe ns hns
        have : (LI L).length ≤ 60 := hb.1
        have h2 : (LI L).length * 60 ≤ 3600 := Nat.mul_le_mul_right 60 this
        rw [sizeLine_eq]; omega
      have hc3 : lc2M (srcV T.asList (eVar 1)) [6, 7] [7] (gNm 6) cYes (srcV T.asList (eVar 6)) (gNm 7) cYes (eVar 7) ρ = some (.val (.lst ((((LI L).map sub1).flatten).map T.fr)), ρ) := by
        refine lc2M_eq (hd := none) (ρ1 := ρ) sub1 (src_list (ρ := ρ) (i := 1) rfl) (fun x hx => ?_) rfl hfl rfl
        obtain ⟨ns, hns, rfl⟩ := List.mem_map.mp hx
        let ρa : MS := [ow c0, ow (.list (LI L)), ow (rowsD rs), .non, .non, .non, ow (.list (ns.map PyData.int)), .non, .non, .non]
        obtain ⟨ρz, a, b⟩ := lcLoop_pure (vs := [7]) (m := gNm 7) (c := cYes) (e := eVar 7) (ρ := ρa) (ds := ns.map PyData.int) (p := fun _ => true) (g := fun x => x) fun x hx => ⟨[ow c0, ow (.list (LI L)), ow (rowsD rs), .non, .non, .non, ow (.list (ns.map PyData.int)), ow x, .non, .non], rfl, rfl, fun _ => rfl, rfl⟩
        have e : ((ns.map PyData.int).filter fun _ => true).map (fun x => x) = ns.map PyData.int := by rw [List.filter_eq_self.mpr fun _ _ => rfl, List.map_id']
        rw [e] at a
        exact ⟨ρa, ρa, ns.map PyData.int, none, ρz, wipeM [7] ρz, rfl, rfl, rfl, a, rfl, by rw [b]; rfl⟩
      rw [sub_flat] at hc3
      have hso : opSorted (.lst ((L.flatten.map PyData.int).map T.fr)) = some (.lst (((sortI L.flatten).map PyData.int).map T.fr)) := by
        unfold opSorted
        rw [view_list, Option.bind_some, DL.ints_map]; rfl
      have hrg := eRange1_eq (ρ1 := ρ) hln rfl (by omega)
      rw [natD_int] at hrg
      have c3 : cOf (bin true opNe (un opSorted (lc2M (srcV T.asList (eVar 1)) [6, 7] [7] (gNm 6) cYes (srcV T.asList (eVar 6)) (gNm 7) cYes (eVar 7))) (eRange1 (un opLen (eVar 2)))) ρ = some (!permB n (.list (LI L)), ρ) := by
        have := cOf_eq (bin_eq (q := true) (un_eq hc3 rfl hso) hrg rfl rfl rfl (ne_ints _ _)) rfl
        unfold permB
        rw [rowsI_LI]
        exact this
      show _ = some (T.fr (.bool (true && (true && (permB n (.list (LI L)) && pairsB rs (natRows (.list (LI L))))))), [Sl.non, Sl.non])
      cases hp : permB n (.list (LI L)) with
      | false =>
        rw [hp] at c3
        exact runFn_ret (ρ := ρ) ⟨rfl, rfl⟩ (sSeq_eq (ρ1 := ρ) rfl (sSeq_eq (ρ1 := ρ) (sIf_eq (cOr_eq c1 (by rw [if_neg (by simp)]; exact c2)) rfl) (sSeq_ret (sIf_eq c3 rfl))))
      | true =>
        rw [hp] at c3
        have hpe : sortI L.flatten = (List.range n).map fun (k : Nat) => (k : Int) := by
          have := of_decide_eq_true hp
          rw [rowsI_LI] at this
          exact this
        obtain ⟨q1, q2, q3⟩ := part_of hpe hLl hLe
        obtain ⟨ρ', t1, t2⟩ := tail_ok G q2 (c0 := c0)
        rw [← q1] at t1
        have e : natRows (.list (LI L)) = L.map fun ns => ns.map Int.toNat := by unfold natRows; rw [rowsI_LI]
        rw [e]
        have hrun := runFn_ret (n := 2) (nsl := 10) (m := m_shows_steps) (ps := [ow c0, ow (.list (LI L))]) (ρ := ρ') ⟨rfl, rfl⟩ (sSeq_eq (ρ1 := ρ) rfl (sSeq_eq (ρ1 := ρ) (sIf_eq (cOr_eq c1 (by rw [if_neg (by simp)]; exact c2)) rfl) (sSeq_eq (ρ1 := ρ) (sIf_eq c3 rfl) t1)))
        rw [t2] at hrun
        exact hrun
end K71

/-! steps: the law's own judge, the same answer -/
namespace K71
open PySem PySem.Spec PyProof.Rows L2 DL
variable {rs : List Row} {ins : Int} {os sh : PyData}
def allR (n : Nat) (d : PyData) : Bool := (itemsOf d).all (rowsB (n : Nat))
theorem perm_mem {n : Nat} {L : List (List Int)} (h : sortI L.flatten = (List.range n).map fun (k : Nat) => (k : Int)) {ns : List Int} (hns : ns ∈ L) {z : Int} (hz : z ∈ ns) : 0 ≤ z ∧ z < (n : Int) := by
  have := (perm_of h).mem_iff.mp (List.mem_flatten.mpr ⟨ns, hns, hz⟩)
  obtain ⟨k, hk, rfl⟩ := List.mem_map.mp this
  have := List.mem_range.mp hk
  omega
theorem bt_of {n : Nat} {ns : List Int} (h : ∀ z ∈ ns, 0 ≤ z ∧ z < (n : Int)) : btB 0 ((n : Int) - 1) (.list (ns.map PyData.int)) = true := by
  show ((ns.map PyData.int).all isW && (ns.map PyData.int).all (inB 0 ((n : Int) - 1))) = true
  rw [Bool.and_eq_true]
  refine ⟨List.all_eq_true.mpr fun x hx => ?_, List.all_eq_true.mpr fun x hx => ?_⟩
  · obtain ⟨z, _, rfl⟩ := List.mem_map.mp hx; rfl
  · obtain ⟨z, hz, rfl⟩ := List.mem_map.mp hx
    obtain ⟨a, b⟩ := h z hz
    show (decide (0 ≤ z) && decide (z ≤ (n : Int) - 1)) = true
    rw [decide_eq_true a, decide_eq_true (by omega)]; rfl
theorem steps_rows {d : PyData} (h : stepsB rs d = true) : allR rs.length d = true := by
  unfold stepsB at h
  rw [Bool.and_eq_true, Bool.and_eq_true, Bool.and_eq_true] at h
  obtain ⟨h1, h2, h3, _⟩ := h
  obtain ⟨L, rfl, hL⟩ := al_list h1
  have h3 := of_decide_eq_true h3
  rw [rowsI_LI] at h3
  rw [risAll_LI] at h2
  refine List.all_eq_true.mpr fun x hx => ?_
  obtain ⟨ns, hns, rfl⟩ := List.mem_map.mp (show x ∈ LI L from hx)
  unfold rowsB
  rw [bt_of fun z hz => perm_mem h3 hns hz, intsOf_map, Bool.true_and]
  exact List.all_eq_true.mp h2 ns hns
theorem rows_lists {n : Nat} {ds : List PyData} (h : allR n (.list ds) = true) : ∃ L : List (List Int), ds = LI L ∧ (∀ ns ∈ L, ∀ z ∈ ns, 0 ≤ z ∧ z < (n : Int)) ∧ L.all risB = true := by
  refine ⟨ds.map intsOf, ?_, fun ns hns z hz => ?_, ?_⟩
  · unfold LI
    rw [List.map_map]
    conv => lhs; rw [← List.map_id ds]
    refine List.map_congr_left fun x hx => ?_
    obtain ⟨ns, rfl, e2, _, _⟩ := rowsB_ints (List.all_eq_true.mp h x hx)
    show PyData.list (ns.map PyData.int) = .list ((intsOf (.list (ns.map PyData.int))).map PyData.int)
    rw [e2]
  · obtain ⟨x, hx, rfl⟩ := List.mem_map.mp hns
    obtain ⟨ns, rfl, e2, e3, _⟩ := rowsB_ints (List.all_eq_true.mp h x hx)
    rw [e2] at hz
    exact e3 z hz
  · rw [List.all_map]
    refine List.all_eq_true.mpr fun x hx => ?_
    obtain ⟨ns, rfl, e2, _, e4⟩ := rowsB_ints (List.all_eq_true.mp h x hx)
    show risB (intsOf (.list (ns.map PyData.int))) = true
    rw [e2]; exact e4
theorem al_LI (L : List (List Int)) : alW (.list (LI L)) = true := by
  show (LI L).all arW = true
  refine List.all_eq_true.mpr fun x hx => ?_
  obtain ⟨ns, _, rfl⟩ := List.mem_map.mp hx
  refine List.all_eq_true.mpr fun y hy => ?_
  obtain ⟨z, _, rfl⟩ := List.mem_map.mp hy
  rfl
/-- what is left of the answer where all are rows -/
theorem steps_rest {L : List (List Int)} (hr : L.all risB = true) : stepsB rs (.list (LI L)) = (permB rs.length (.list (LI L)) && pairsB rs (L.map fun ns => ns.map Int.toNat)) := by
  unfold stepsB
  rw [al_LI, risAll_LI, hr]
  unfold natRows
  rw [rowsI_LI]
  rfl
theorem perm_no {n : Nat} {L : List (List Int)} (h : ∀ ns ∈ L, ∀ z ∈ ns, 0 ≤ z ∧ z < (n : Int)) (hn : ¬ ((L.map fun ns => ns.map Int.toNat).flatten.Nodup ∧ (L.map fun ns => ns.map Int.toNat).flatten.length = n)) : permB n (.list (LI L)) = false := by
  refine decide_eq_false fun z => hn ?_
  rw [rowsI_LI] at z
  have hp := perm_of z
  have hf : (L.map fun ns => ns.map Int.toNat).flatten = L.flatten.map Int.toNat := by rw [List.map_flatten]
  have hp2 := hp.map Int.toNat
  rw [List.map_map, ← hf] at hp2
  have e : (List.range n).map (Int.toNat ∘ fun (k : Nat) => (k : Int)) = List.range n := by
    conv => rhs; rw [← List.map_id (List.range n)]
    exact List.map_congr_left fun k _ => by show ((k : Int)).toNat = k; omega
  rw [e] at hp2
  exact ⟨hp2.nodup_iff.mpr List.nodup_range, by rw [hp2.length_eq, List.length_range]⟩
theorem perm_yes {n : Nat} {L : List (List Int)} (h : ∀ ns ∈ L, ∀ z ∈ ns, 0 ≤ z ∧ z < (n : Int)) (h1 : (L.map fun ns => ns.map Int.toNat).flatten.Nodup) (h2 : (L.map fun ns => ns.map Int.toNat).flatten.length = n) :
    sortI L.flatten = (List.range n).map fun (k : Nat) => (k : Int) := by
  have hf : (L.map fun ns => ns.map Int.toNat).flatten = L.flatten.map Int.toNat := by rw [List.map_flatten]
  have hin : ∀ z ∈ L.flatten, 0 ≤ z ∧ z < (n : Int) := fun z hz => by
    obtain ⟨ns, a, b⟩ := List.mem_flatten.mp hz
    exact h ns a z b
  rw [hf] at h1 h2
  have hsub : ∀ a ∈ L.flatten.map Int.toNat, a < n := fun a ha => by
    obtain ⟨z, hz, rfl⟩ := List.mem_map.mp ha
    have := hin z hz
    omega
  have hp : (L.flatten.map Int.toNat).Perm (List.range n) := by
    refine (List.perm_ext_iff_of_nodup h1 List.nodup_range).mpr fun a => ⟨fun ha => List.mem_range.mpr (hsub a ha), fun ha => ?_⟩
    by_cases hm : a ∈ L.flatten.map Int.toNat
    · exact hm
    · exfalso
      have := nodup_sub (xs := L.flatten.map Int.toNat) (ys := (List.range n).erase a) h1 fun x hx => (List.mem_erase_of_ne (show x ≠ a from fun z => hm (by rw [← z]; exact hx))).mpr (List.mem_range.mpr (hsub x hx))
      rw [List.length_erase_of_mem ha, h2, List.length_range] at this
      have := List.mem_range.mp ha
      omega
  have hp2 := hp.map fun (k : Nat) => (k : Int)
  rw [List.map_map] at hp2
  have e : L.flatten.map ((fun (k : Nat) => (k : Int)) ∘ Int.toNat) = L.flatten := by
    conv => rhs; rw [← List.map_id L.flatten]
    exact List.map_congr_left fun z hz => by show ((z.toNat : Nat) : Int) = z; have := hin z hz; omega
  rw [e] at hp2
  refine sorted_unique ((sortI_perm _).trans hp2) (sortI_sorted _) ?_
  exact List.pairwise_map.mpr ((List.pairwise_lt_range).imp fun {x y} hxy => by omega)
theorem in_dT {v : Nat → PyData} {kv : List Nat} {a : Nat} : opIn (.fr (.int (a : Int))) (dT v kv) = some (.fr (.bool (decide (a ∈ kv)))) := by
  show (memT (.fr (.int (a : Int))) (.dic (kv.map inlK) (kv.map fun a => T.fr (v a)))).map _ = _
  have : memT (.fr (.int (a : Int))) (.dic (kv.map inlK) (kv.map fun a => T.fr (v a))) = some ((kv.map inlK).any fun j => decide (j = inlK a)) := rfl
  rw [this, dic_any]; rfl
theorem len_dT {v : Nat → PyData} {kv : List Nat} : opLen (dT v kv) = some (.fr (.int (kv.length : Nat))) := by
  show some (T.fr (.int (((kv.map inlK).length : Nat) : Int))) = _
  rw [List.length_map]
theorem lvl_first {LN : List (List Nat)} {l : Nat} (hl : l < LN.length) {a : Nat} (ha : a ∈ LN[l]) (hn : a ∉ (LN.take l).flatten) : lvl LN a = l := by
  unfold lvl
  refine (List.findIdx_eq hl).mpr ⟨by simpa using ha, fun j hj => ?_⟩
  cases hc : (LN[j]'(by omega)).contains a with
  | false => rfl
  | true =>
    exfalso
    refine hn (List.mem_flatten.mpr ⟨LN[j]'(by omega), ?_, by simpa using hc⟩)
    exact List.mem_take_iff_getElem.mpr ⟨j, by omega, rfl⟩
end K71

namespace K71
open PySem PySem.Spec PyProof.Rows L2 DL
variable {rs : List Row} {ins : Int} {os sh : PyData}
def mFill : DL.M Fl := sFor (srcR rng1 (aCons (un opLen (eVar 1)) (aNil))) (gNm 3) (sFor (srcV T.asList (subs true opIx (eVar 1) (eVar 3))) (gNm 5) (sSeq (sIf (cOf (bin true opIn (eVar 5) (eVar 2))) (sRet (eC (.bool false))) (sNx))
  (sPut true putAny (eVar 3) (eVar 2) (eVar 5))))
def lvD (LN : List (List Nat)) (a : Nat) : PyData := .int ((lvl LN a : Nat) : Int)
theorem fill_ok {LN : List (List Nat)} (hl : LN.length ≤ 60) (he : ∀ xs ∈ LN, xs.length ≤ 60) :
    (∃ s3 s5, LN.flatten.Nodup ∧ Fre s3 ∧ Fre s5 ∧ mFill [ow (rowsD rs), ow (.list (LD LN)), .own (.dic [] []), .non, .non, .non, .non, .non] = some (.nx, [ow (rowsD rs), ow (.list (LD LN)), .own (dT (lvD LN) LN.flatten), s3, .non, s5, .non, .non]))
    ∨ ∃ ρ', ¬ LN.flatten.Nodup ∧ pinsOf 2 ρ' = [.non, .non] ∧ mFill [ow (rowsD rs), ow (.list (LD LN)), .own (.dic [] []), .non, .non, .non, .non, .non] = some (.rt (.val (.fr (.bool false))), ρ') := by
  let s0 : Sl := ow (rowsD rs)
  let s1 : Sl := ow (.list (LD LN))
  let ρ0 : MS := [s0, s1, .own (.dic [] []), .non, .non, .non, .non, .non]
  have hln := len_list (ds := LD LN) (ρ := ρ0) (i := 1) rfl
  rw [LD_len] at hln
  have hsrc : srcR rng1 (aCons (un opLen (eVar 1)) aNil) ρ0 = some ((natD (List.range LN.length), none), ρ0) := srcR_eq (ds := [.int (LN.length : Nat)]) (aCons_eq hln rfl rfl) (rng1_nat (by omega))
  have hkl : ∀ l, l ≤ LN.length → ((LN.take l).flatten).length ≤ 3600 := fun l hl2 => by
    have := flat_len (f := fun xs : List Nat => xs) (b := 60) (xs := LN.take l) fun xs hx => he xs (List.mem_of_mem_take hx)
    rw [List.map_id'] at this
    have h2 : (LN.take l).length * 60 ≤ 60 * 60 := Nat.mul_le_mul_right 60 (by rw [List.length_take]; omega)
    omega
  let S : Nat → MS → Prop := fun l ρ => ∃ s3 s5, ((LN.take l).flatten).Nodup ∧ Fre s3 ∧ Fre s5 ∧ ρ = [s0, s1, .own (dT (lvD LN) (LN.take l).flatten), s3, .non, s5, .non, .non]
  let E : DL.R → MS → Prop := fun r ρ => r = .val (.fr (.bool false)) ∧ ¬ LN.flatten.Nodup ∧ pinsOf 2 ρ = [.non, .non]
  have main := sFor_ret (m := gNm 3) (n := sFor (srcV T.asList (subs true opIx (eVar 1) (eVar 3))) (gNm 5) (sSeq (sIf (cOf (bin true opIn (eVar 5) (eVar 2))) (sRet (eC (.bool false))) (sNx)) (sPut true putAny (eVar 3) (eVar 2) (eVar 5)))) hsrc S E ⟨.non, .non, by simp, .inl rfl, .inl rfl, rfl⟩ (fun l ρ hlt hS => by
    obtain ⟨s3, s5, nd, f3, f5, rfl⟩ := hS
    have hl' : l < LN.length := by rw [natD_len, List.length_range] at hlt; exact hlt
    let xs := LN[l]
    let pre := (LN.take l).flatten
    have hxl : xs.length ≤ 60 := he _ (List.getElem_mem _)
    let ρa : MS := [s0, s1, .own (dT (lvD LN) pre), ow (.int (l : Nat)), .non, s5, .non, .non]
    have el : (natD (List.range LN.length))[l]'hlt = .int (l : Nat) := by rw [natD_get hlt, List.getElem_range]
    refine ⟨ρa, by rw [el]; rcases f3 with rfl | ⟨d, rfl⟩ <;> rfl, ?_⟩
    have hix : opIx (.fr (.list (LD LN))) (.fr (.int (l : Nat))) = some (.fr (.list (natD xs))) := by
      rw [opIx_list (by rw [LD_len]; exact hl'), LD_at hl']
    have hs2 : srcV T.asList (subs true opIx (eVar 1) (eVar 3)) ρa = some ((natD xs, none), ρa) := srcV_eq (subs_val (t := .fr (.list (LD LN))) (u := .fr (.int (l : Nat))) rfl rfl rfl hix) rfl rfl
    have hsplit : LN.flatten = pre ++ (xs ++ (LN.drop (l + 1)).flatten) := by
      conv => lhs; rw [← List.take_append_drop l LN, List.flatten_append, List.drop_eq_getElem_cons hl', List.flatten_cons]
    let S2 : Nat → MS → Prop := fun j ρ => ∃ s5, (pre ++ xs.take j).Nodup ∧ Fre s5 ∧ ρ = [s0, s1, .own (dT (lvD LN) (pre ++ xs.take j)), ow (.int (l : Nat)), .non, s5, .non, .non]
    have inner := sFor_ret (m := gNm 5) (n := sSeq (sIf (cOf (bin true opIn (eVar 5) (eVar 2))) (sRet (eC (.bool false))) (sNx)) (sPut true putAny (eVar 3) (eVar 2) (eVar 5))) hs2 S2 E ⟨s5, by simpa using nd, f5, by simp [ρa]⟩ (fun j ρ hj hS => by
      obtain ⟨s5, nd, f5, rfl⟩ := hS
      have hj' : j < xs.length := by rw [natD_len] at hj; exact hj
      let a := xs[j]
      let kv := pre ++ xs.take j
      have hkv : kv.length ≤ 4000 := by
        have hp : pre.length ≤ 3600 := hkl l (by omega)
        show (pre ++ xs.take j).length ≤ 4000
        rw [List.length_append, List.length_take]
        omega
      let ρb : MS := [s0, s1, .own (dT (lvD LN) kv), ow (.int (l : Nat)), .non, ow (.int (a : Nat)), .non, .non]
      refine ⟨ρb, by rw [natD_get hj]; rcases f5 with rfl | ⟨d, rfl⟩ <;> rfl, ?_⟩
      have cin : cOf (bin true opIn (eVar 5) (eVar 2)) ρb = some (decide (a ∈ kv), ρb) := cOf_eq (bin_eq (y := .bor 2 []) rfl rfl rfl rfl rfl in_dT) rfl
      have hsx : kv ++ [a] = pre ++ xs.take (j + 1) := by
        show (pre ++ xs.take j) ++ [xs[j]] = _
        rw [List.append_assoc, List.take_add_one, List.getElem?_eq_getElem hj']; rfl
      by_cases hm : a ∈ kv
      · rw [decide_eq_true hm] at cin
        refine .inr ⟨_, ρb, sSeq_ret (sIf_eq cin rfl), rfl, fun z => ?_, rfl⟩
        rw [hsplit] at z
        have e : pre ++ (xs ++ (LN.drop (l + 1)).flatten) = kv ++ (a :: (xs.drop (j + 1) ++ (LN.drop (l + 1)).flatten)) := by
          show _ = (pre ++ xs.take j) ++ (xs[j] :: (xs.drop (j + 1) ++ _))
          rw [List.append_assoc, ← List.cons_append, ← List.drop_eq_getElem_cons hj', ← List.append_assoc (xs.take j), List.take_append_drop]
        rw [e] at z
        exact (List.nodup_append.mp z).2.2 a hm a List.mem_cons_self rfl
      · rw [decide_eq_false hm] at cin
        have hlv : lvl LN a = l := lvl_first hl' (List.getElem_mem _) fun z => hm (List.mem_append_left _ z)
        have hput := put_dT (v := lvD LN) (kv := kv) (a := a) (by rw [sizeLine_eq]; omega)
        have hadd : addK kv a = pre ++ xs.take (j + 1) := by unfold addK; rw [if_neg hm, hsx]
        rw [hadd] at hput
        have hp := put_gen (qb := true) (g := eVar 3) (ga := eVar 2) (gb := eVar 5) (ρ := ρb) (i := 2) (s := .own (dT (lvD LN) kv)) (t := dT (lvD LN) kv) (u := .fr (.int (a : Nat))) (d := lvD LN a) (t' := dT (lvD LN) (pre ++ xs.take (j + 1))) (by show some (PyData.int (l : Nat), ρb) = some (PyData.int ((lvl LN a : Nat) : Int), ρb); rw [hlv]) rfl rfl rfl rfl rfl hput
        refine .inl ⟨_, .inl (sSeq_eq (ρ1 := ρb) (sIf_eq cin rfl) hp), _, ?_, .inr ⟨_, rfl⟩, rfl⟩
        rw [← hsx]
        exact List.nodup_append.mpr ⟨nd, by simp, fun x hx y hy z => hm (by have : y = a := by simpa using hy
                                                                            rw [← this, ← z]; exact hx)⟩)
    rcases inner with ⟨ρ', t1, s5', nd', f5', e'⟩ | ⟨r, ρ', t1, hE⟩
    · refine .inl ⟨ρ', .inl t1, ow (.int (l : Nat)), s5', ?_, .inr ⟨.int (l : Nat), rfl⟩, f5', ?_⟩
      · rw [List.take_add_one, List.getElem?_eq_getElem hl', List.flatten_append]
        rw [natD_len, List.take_length] at nd'
        simpa using nd'
      · rw [e', natD_len, List.take_length, List.take_add_one, List.getElem?_eq_getElem hl', List.flatten_append]
        simp [pre, xs]
    · exact .inr ⟨r, ρ', t1, hE⟩)
  rcases main with ⟨ρ', t1, s3, s5, nd, f3, f5, e⟩ | ⟨r, ρ', t1, rfl, nd, hp⟩
  · rw [natD_len, List.length_range, List.take_length] at nd e
    subst e
    exact .inl ⟨s3, s5, nd, f3, f5, t1⟩
  · exact .inr ⟨ρ', nd, hp, t1⟩
def mPairs : DL.M Fl := sFor (srcR rng1 (aCons (un opLen (eVar 0)) (aNil))) (gNm 4) (sIf (cOf (bin true opGt (un opLen (lcM (srcR rng1 (aCons (eVar 4) (aNil))) [7] (gNm 7) (cAnd (cTru (eFn f__law_hang (aCons (subs true opIx (eVar 0) (eVar 7)) (aCons (subs true opIx (eVar 0) (eVar 4)) (aNil))))) (cOf (bin true opGe (subs true opIx (eVar 2) (eVar 7)) (subs true opIx (eVar 2) (eVar 4))))) (eVar 7))) (eC (.int 0)))) (sRet (eC (.bool false))) (sNx))
theorem pairs_alt (rs : List Row) (LN : List (List Nat)) : pairsB rs LN = (List.range rs.length).all fun j => (List.range j).all fun i => !(RR rs i j && decide (lvl LN j ≤ lvl LN i)) := by
  unfold pairsB
  refine congrArg (fun f => (List.range rs.length).all f) (funext fun j => ?_)
  rw [List.all_filter]
  refine congrArg (fun f => (List.range j).all f) (funext fun i => ?_)
  cases RR rs i j with
  | false => rfl
  | true =>
    by_cases h : lvl LN i < lvl LN j
    · rw [decide_eq_true h, decide_eq_false (by omega)]; rfl
    · rw [decide_eq_false h, decide_eq_true (by omega)]; rfl
theorem law_pairs_ok (G : Good rs) {LN : List (List Nat)} (hm : ∀ a, a < rs.length → a ∈ LN.flatten) {s1 s3 s5 : Sl} (f1 : pinOnly s1 = .non) :
    ∃ ρ', pinsOf 2 ρ' = [.non, .non] ∧ mPairs [ow (rowsD rs), s1, .own (dT (lvD LN) LN.flatten), s3, .non, s5, .non, .non] = some (if pairsB rs LN = true then .nx else .rt (.val (.fr (.bool false))), ρ') := by
  let n := rs.length
  have hn : n ≤ 60 := G.1
  let dd : Sl := .own (dT (lvD LN) LN.flatten)
  let ρ0 : MS := [ow (rowsD rs), s1, dd, s3, .non, s5, .non, .non]
  have hln := len_list (ds := rs.map Row.enc) (ρ := ρ0) (i := 0) rfl
  rw [List.length_map] at hln
  have hsrc : srcR rng1 (aCons (un opLen (eVar 0)) aNil) ρ0 = some ((natD (List.range n), none), ρ0) := srcR_eq (ds := [.int (n : Nat)]) (aCons_eq hln rfl rfl) (rng1_nat (by omega))
  let okj : Nat → Bool := fun j => (List.range j).all fun i => !(RR rs i j && decide (lvl LN j ≤ lvl LN i))
  let S : Nat → MS → Prop := fun j ρ => ∃ s4, (∀ k, k < j → okj k = true) ∧ Fre s4 ∧ ρ = [ow (rowsD rs), s1, dd, s3, s4, s5, .non, .non]
  let E : DL.R → MS → Prop := fun r ρ => r = .val (.fr (.bool false)) ∧ pairsB rs LN = false ∧ pinsOf 2 ρ = [.non, .non]
  have main := sFor_ret (m := gNm 4) (n := sIf (cOf (bin true opGt (un opLen (lcM (srcR rng1 (aCons (eVar 4) (aNil))) [7] (gNm 7) (cAnd (cTru (eFn f__law_hang (aCons (subs true opIx (eVar 0) (eVar 7)) (aCons (subs true opIx (eVar 0) (eVar 4)) (aNil))))) (cOf (bin true opGe (subs true opIx (eVar 2) (eVar 7)) (subs true opIx (eVar 2) (eVar 4))))) (eVar 7))) (eC (.int 0)))) (sRet (eC (.bool false))) (sNx)) hsrc S E ⟨.non, fun k h => by omega, .inl rfl, rfl⟩ (fun j ρ hj hS => by
    obtain ⟨s4, hk, f4, rfl⟩ := hS
    have hj' : j < n := by rw [natD_len, List.length_range] at hj; exact hj
    let ρa : MS := [ow (rowsD rs), s1, dd, s3, ow (.int (j : Nat)), s5, .non, .non]
    refine ⟨ρa, by rw [natD_get hj, List.getElem_range]; rcases f4 with rfl | ⟨d, rfl⟩ <;> rfl, ?_⟩
    have hc := lcM_nat (vs := [7]) (m := gNm 7) (c := cAnd (cTru (eFn f__law_hang (aCons (subs true opIx (eVar 0) (eVar 7)) (aCons (subs true opIx (eVar 0) (eVar 4)) (aNil))))) (cOf (bin true opGe (subs true opIx (eVar 2) (eVar 7)) (subs true opIx (eVar 2) (eVar 4))))) (e := eVar 7) (src := srcR rng1 (aCons (eVar 4) (aNil))) (ρ := ρa) (ρ1 := ρa) (hd := none) (ρ3 := ρa) (List.range j) (fun i => RR rs i j && decide (lvl LN j ≤ lvl LN i)) (fun i => .int (i : Nat)) (srcR_eq (ds := [.int (j : Nat)]) rfl (rng1_nat (by omega))) (by rw [List.length_range]; exact small_le (by omega)) (fun i hi => by
      have hi := List.mem_range.mp hi
      have hi' : i < n := by omega
      let ρb : MS := [ow (rowsD rs), s1, dd, s3, ow (.int (j : Nat)), s5, .non, ow (.int (i : Nat))]
      refine ⟨ρb, rfl, ?_, fun _ => rfl, rfl⟩
      have a1 : aCons (subs true opIx (eVar 0) (eVar 7)) (aCons (subs true opIx (eVar 0) (eVar 4)) aNil) ρb = some ([(rs[i]'hi').enc, (rs[j]'hj').enc], ρb) :=
        aCons_eq (subs_val rfl rfl rfl (rows_at hi')) rfl (aCons_eq (subs_val rfl rfl rfl (rows_at hj')) rfl rfl)
      have h1 : cTru (eFn f__law_hang (aCons (subs true opIx (eVar 0) (eVar 7)) (aCons (subs true opIx (eVar 0) (eVar 4)) (aNil)))) ρb = some (RR rs i j, ρb) := cTru_eq (eFn_eq a1 (hang2_at G hi' hj')) rfl rfl
      have b1 := subs_dic (q := true) (f := opIx) (ga := eVar 2) (gb := eVar 7) (ρ := ρb) (i := 2) rfl rfl rfl rfl (get_dT (v := lvD LN) (hm i hi'))
      have b2 := subs_dic (q := true) (f := opIx) (ga := eVar 2) (gb := eVar 4) (ρ := ρb) (i := 2) rfl rfl rfl rfl (get_dT (v := lvD LN) (hm j hj'))
      have h2 : cOf (bin true opGe (subs true opIx (eVar 2) (eVar 7)) (subs true opIx (eVar 2) (eVar 4))) ρb = some (decide (lvl LN j ≤ lvl LN i), ρb) := by
        have := cOf_eq (bin_eq (q := true) b1 b2 rfl rfl rfl (ge_int _ _)) rfl
        rw [show decide (((lvl LN j : Nat) : Int) ≤ ((lvl LN i : Nat) : Int)) = decide (lvl LN j ≤ lvl LN i) from decide_eq_decide.mpr (by omega)] at this
        exact this
      refine cAnd_eq h1 ?_
      cases RR rs i j with
      | false => rfl
      | true => exact h2) rfl rfl
    have hg := cOf_eq (bin_eq (q := true) (gb := eC (.int 0)) (len_made hc) rfl rfl rfl rfl (DL.gt_int _ _)) rfl
    have hok : okj j = decide (((((List.range j).filter fun i => RR rs i j && decide (lvl LN j ≤ lvl LN i)).map fun i => PyData.int (i : Nat)).length : Int) = 0) := none_of.symm
    cases ho : okj j with
    | true =>
      rw [ho] at hok
      have hz := of_decide_eq_true hok.symm
      rw [hz] at hg
      refine .inl ⟨ρa, .inl (sIf_eq hg rfl), _, fun k hk' => ?_, .inr ⟨_, rfl⟩, rfl⟩
      by_cases e : k < j
      · exact hk k e
      · have : k = j := by omega
        subst this; exact ho
    | false =>
      rw [ho] at hok
      have hz := of_decide_eq_false hok.symm
      rw [decide_eq_true (show (0 : Int) < (((((List.range j).filter fun i => RR rs i j && decide (lvl LN j ≤ lvl LN i)).map fun i => PyData.int (i : Nat)).length : Nat) : Int) by omega)] at hg
      refine .inr ⟨_, ρa, sIf_eq hg rfl, rfl, ?_, ?_⟩
      · rw [pairs_alt]
        exact List.all_eq_false.mpr ⟨j, List.mem_range.mpr hj', by show ¬ okj j = true; rw [ho]; exact Bool.false_ne_true⟩
      · show [pinOnly (ow (rowsD rs)), pinOnly s1] = _
        rw [f1]; rfl)
  rcases main with ⟨ρ', t1, s4, hk, f4, e⟩ | ⟨r, ρ', t1, rfl, hb, hp⟩
  · rw [natD_len, List.length_range] at hk
    have hp : pairsB rs LN = true := by
      rw [pairs_alt]
      exact List.all_eq_true.mpr fun j hj => hk j (List.mem_range.mp hj)
    subst e
    refine ⟨_, ?_, by rw [hp, if_pos rfl]; exact t1⟩
    show [pinOnly (ow (rowsD rs)), pinOnly s1] = _
    rw [f1]; rfl
  · exact ⟨ρ', hp, by rw [hb, if_neg Bool.false_ne_true]; exact t1⟩
theorem law_are_steps_ok (G : Good rs) (d : PyData) (h : Sm2 d) : f__law_are_steps [ow (rowsD rs), ow d] = some (.fr (.bool (stepsB rs d)), [.non, .non]) := by
  let n := rs.length
  have hn : n ≤ 60 := G.1
  let ρ : MS := [ow (rowsD rs), ow d, .non, .non, .non, .non, .non, .non]
  obtain ⟨b, c1, hb⟩ := not_list_c (d := d) (ρ := ρ) (i := 1) rfl
  have no : allR n d = false ∨ (∀ ds, d ≠ .list ds) → stepsB rs d = false := fun z => by
    cases hs : stepsB rs d with
    | false => rfl
    | true =>
      rcases z with z | z
      · have := steps_rows hs
        rw [z] at this; cases this
      · unfold stepsB at hs
        rw [Bool.and_eq_true] at hs
        obtain ⟨L, e, _⟩ := al_list hs.1
        exact absurd e (z _)
  cases b with
  | false =>
    rw [no (.inr fun ds z => by have := hb.mpr ⟨ds, z⟩; simp at this)]
    exact runFn_ret (ρ := ρ) ⟨rfl, rfl⟩ (sSeq_ret (sIf_eq (cOr_eq c1 rfl) rfl))
  | true =>
    obtain ⟨ds, rfl⟩ := hb.mp rfl
    have hlr := len_list (ds := rs.map Row.enc) (ρ := ρ) (i := 0) rfl
    have hc := lcM_pure (vs := [6]) (m := gNm 6) (c := cNot (cTru (eFn f__law_are_rows (aCons (un opLen (eVar 0)) (aCons (eVar 6) (aNil)))))) (e := eVar 6) (ρ3 := ρ) (fun x => !rowsB (n : Nat) x) (fun x => x) (src_list (ρ := ρ) (i := 1) rfl) (sm_le h.sm rfl) (fun x hx => by
      let ρ2 : MS := [ow (rowsD rs), ow (.list ds), .non, .non, .non, .non, ow x, .non]
      have hlr := len_list (ds := rs.map Row.enc) (ρ := ρ2) (i := 0) rfl
      rw [List.length_map] at hlr
      exact ⟨ρ2, rfl, cNot_eq (cTru_eq (eFn_eq (ds := [.int (n : Nat), x]) (aCons_eq hlr rfl rfl) (law_are_rows_ok x _ (h.kid rfl x hx))) rfl rfl), fun _ => rfl, rfl⟩) rfl rfl
    have c2 := cOf_eq (bin_eq (q := true) (gb := eC (.int 0)) (len_made hc) rfl rfl rfl rfl (DL.gt_int _ _)) rfl
    have hall : allR n (.list ds) = decide (((((ds.filter fun x => !rowsB (n : Nat) x).map fun x => x).length : Nat) : Int) = 0) := by
      rw [none_of]
      show (ds.all (rowsB (n : Nat))) = _
      exact congrArg (fun f => ds.all f) (funext fun x => (Bool.not_not _).symm)
    cases ha : allR n (.list ds) with
    | false =>
      rw [ha] at hall
      have hz := of_decide_eq_false hall.symm
      rw [decide_eq_true (show (0 : Int) < ((((ds.filter fun x => !rowsB (n : Nat) x).map fun x => x).length : Nat) : Int) by omega)] at c2
      rw [no (.inl ha)]
      exact runFn_ret (ρ := ρ) ⟨rfl, rfl⟩ (sSeq_ret (sIf_eq (cOr_eq c1 (by rw [if_neg (by simp)]; exact c2)) rfl))
    | true =>
      rw [ha] at hall
      have hz := of_decide_eq_true hall.symm
      rw [hz] at c2
      obtain ⟨L, rfl, hin, hrs⟩ := rows_lists ha
      let LN := L.map fun ns => ns.map Int.toNat
      have hLN : LI L = LD LN := toNat_back (n := n) fun ns hns z hz => (hin ns hns z hz).1
      have hbd := h _ rfl
      have hLl : LN.length ≤ 60 := by
        have := hbd.1
        unfold LI at this
        rw [List.length_map] at this ⊢
        exact this
      have hLe : ∀ xs ∈ LN, xs.length ≤ 60 := fun xs hx => by
        obtain ⟨ns, hns, rfl⟩ := List.mem_map.mp hx
        have := hbd.2 (.list (ns.map PyData.int)) (List.mem_map.mpr ⟨ns, hns, rfl⟩) _ rfl
        rw [List.length_map] at this ⊢
        exact this
      have t1 : sIf _ (sRet (eC (.bool false))) sNx ρ = some (.nx, ρ) := sIf_eq (cOr_eq c1 (by rw [if_neg (by simp)]; exact c2)) rfl
      rw [steps_rest hrs]
      rcases fill_ok (rs := rs) hLl hLe with ⟨s3, s5, nd, f3, f5, tf⟩ | ⟨ρ', nd, hp, tf⟩
      · rw [← hLN] at tf
        let ρ3 : MS := [ow (rowsD rs), ow (.list (LI L)), .own (dT (lvD LN) LN.flatten), s3, .non, s5, .non, .non]
        have hl2 : un opLen (eVar 2) ρ3 = some (.val (.fr (.int (LN.flatten.length : Nat))), ρ3) := un_eq (x := .bor 2 []) (t := dT (lvD LN) LN.flatten) rfl rfl len_dT
        have hl0 := len_list (ds := rs.map Row.enc) (ρ := ρ3) (i := 0) rfl
        rw [List.length_map] at hl0
        have c3 := cOf_eq (bin_eq (q := true) hl2 hl0 rfl rfl rfl (opNe_int _ _)) rfl
        by_cases hlen : LN.flatten.length = n
        · have hpe := perm_yes hin nd hlen
          have hpb : permB n (.list (LI L)) = true := by unfold permB; rw [rowsI_LI]; exact decide_eq_true hpe
          obtain ⟨_, _, q3⟩ := part_of hpe (by rw [List.length_map] at hLl; exact hLl) (fun ns hns => by have := hLe _ (List.mem_map.mpr ⟨ns, hns, rfl⟩); rw [List.length_map] at this; exact this)
          have hm : ∀ a, a < n → a ∈ LN.flatten := fun a ha => q3.mem_iff.mpr (List.mem_range.mpr ha)
          have e3 : (!decide (((LN.flatten.length : Nat) : Int) = (rs.length : Nat))) = false := by rw [decide_eq_true (show ((LN.flatten.length : Nat) : Int) = (rs.length : Nat) by omega)]; rfl
          rw [e3] at c3
          obtain ⟨ρ4, hp, tp⟩   := law_pairs_ok G (LN := LN) hm (s1 := ow (.list (LI L))) (s3 := s3) (s5 := s5) rfl
          rw [show permB rs.length (.list (LI L)) = true from hpb, Bool.true_and]
          have pre : ∀ z, mPairs ρ3 = z → sSeq mPairs (sRet (eC (.bool true))) ρ3 = sSeq mPairs (sRet (eC (.bool true))) ρ3 := fun _ _ => rfl
          cases hq : pairsB rs LN with
          | true =>
            rw [hq, if_pos rfl] at tp
            have hrun := runFn_ret (n := 2) (nsl := 8) (m := m__law_are_steps) (ps := [ow (rowsD rs), ow (.list (LI L))]) (ρ := ρ4) (d := .bool true) ⟨rfl, rfl⟩ (sSeq_eq t1 (sSeq_eq (ρ1 := [ow (rowsD rs), ow (.list (LI L)), .own (.dic [] []), .non, .non, .non, .non, .non]) rfl (sSeq_eq tf (sSeq_eq (ρ1 := ρ3) (sIf_eq c3 rfl) (sSeq_eq tp rfl)))))
            rw [hp] at hrun
            exact hrun
          | false =>
            rw [hq, if_neg Bool.false_ne_true] at tp
            have hrun := runFn_ret (n := 2) (nsl := 8) (m := m__law_are_steps) (ps := [ow (rowsD rs), ow (.list (LI L))]) (ρ := ρ4) (d := .bool false) ⟨rfl, rfl⟩ (sSeq_eq t1 (sSeq_eq (ρ1 := [ow (rowsD rs), ow (.list (LI L)), .own (.dic [] []), .non, .non, .non, .non, .non]) rfl (sSeq_eq tf (sSeq_eq (ρ1 := ρ3) (sIf_eq c3 rfl) (sSeq_ret tp)))))
            rw [hp] at hrun
            exact hrun
        · have e3 : (!decide (((LN.flatten.length : Nat) : Int) = (rs.length : Nat))) = true := by rw [decide_eq_false (show ¬ ((LN.flatten.length : Nat) : Int) = (rs.length : Nat) from fun z => hlen (by show LN.flatten.length = rs.length; omega))]; rfl
          rw [e3] at c3
          rw [perm_no hin fun z => hlen z.2, Bool.false_and]
          exact runFn_ret (n := 2) (nsl := 8) (m := m__law_are_steps) (ps := [ow (rowsD rs), ow (.list (LI L))]) (ρ := ρ3) ⟨rfl, rfl⟩ (sSeq_eq t1 (sSeq_eq (ρ1 := [ow (rowsD rs), ow (.list (LI L)), .own (.dic [] []), .non, .non, .non, .non, .non]) rfl (sSeq_eq tf (sSeq_ret (sIf_eq c3 rfl)))))
      · rw [← hLN] at tf
        rw [perm_no hin fun z => nd z.1, Bool.false_and]
        have hrun := runFn_ret (n := 2) (nsl := 8) (m := m__law_are_steps) (ps := [ow (rowsD rs), ow (.list (LI L))]) (ρ := ρ') (d := .bool false) ⟨rfl, rfl⟩ (sSeq_eq t1 (sSeq_eq (ρ1 := [ow (rowsD rs), ow (.list (LI L)), .own (.dic [] []), .non, .non, .non, .non, .non]) rfl (sSeq_ret tf)))
        rw [hp] at hrun
        exact hrun
end K71

/-! papers: what the law bends -/
namespace K71
open PySem PySem.Spec PyProof.Rows L2 DL
inductive Pap : Nat → PyData → Prop
  | non {k : Nat} : Pap k .none
  | tru {k : Nat} : Pap k (.bool true)
  | zero {k : Nat} : Pap k (.str "0")
  | int {k : Nat} {i : Int} : -1000 ≤ i → i ≤ 1000 → Pap k (.int i)
  | lst {k : Nat} {ds : List PyData} : ds.length ≤ 30 → (∀ d ∈ ds, Pap k d) → Pap (k + 1) (.list ds)
  | tup {k : Nat} {ds : List PyData} : ds.length ≤ 30 → (∀ d ∈ ds, Pap k d) → Pap (k + 1) (.tuple ds)
theorem Pap.up : ∀ {k : Nat} {d : PyData}, Pap k d → Pap (k + 1) d
  | _, _, .non => .non
  | _, _, .tru => .tru
  | _, _, .zero => .zero
  | _, _, .int a b => .int a b
  | _, _, .lst a b => .lst a fun d hd => (b d hd).up
  | _, _, .tup a b => .tup a fun d hd => (b d hd).up
theorem Pap.list {k : Nat} {ds : List PyData} (h : Pap (k + 1) (.list ds)) : ds.length ≤ 30 ∧ ∀ d ∈ ds, Pap k d := by
  cases h with
  | lst a b => exact ⟨a, b⟩
def wt : Nat → Nat
  | 0 => 10
  | k + 1 => 30 * (wt k + 1)
theorem wt_pos (k : Nat) : 10 ≤ wt k := by
  induction k with
  | zero => exact Nat.le_refl _
  | succ k ih => show 10 ≤ 30 * (wt k + 1); omega
theorem weightAll_le {w : Nat} : ∀ {ds : List PyData}, (∀ d ∈ ds, d.weight ≤ w) → PyData.weightAll ds ≤ ds.length * (w + 1)
  | [], _ => by show 0 ≤ _; omega
  | d :: ds, h => by
    have h1 := h d List.mem_cons_self
    have h2 := weightAll_le (ds := ds) fun x hx => h x (List.mem_cons_of_mem _ hx)
    show d.weight + 1 + PyData.weightAll ds ≤ (ds.length + 1) * (w + 1)
    rw [Nat.add_mul]
    omega
theorem log_small {i : Int} (h1 : -1000 ≤ i) (h2 : i ≤ 1000) : i.natAbs.log2 < 10 := by
  by_cases h : i.natAbs = 0
  · rw [h]; decide
  · exact (Nat.log2_lt h).mpr (by omega)
theorem Pap.weight : ∀ {k : Nat} {d : PyData}, Pap k d → d.weight ≤ wt k
  | k, _, .non => Nat.zero_le _
  | k, _, .tru => Nat.zero_le _
  | k, _, .zero => by have := wt_pos k; show 1 ≤ wt k; omega
  | k, _, .int (i := i) a b => by
    have := wt_pos k
    have := log_small a b
    show (if i == 0 then 0 else i.natAbs.log2 + 1) ≤ wt k
    split <;> omega
  | k + 1, _, .lst a b => by
    have h := weightAll_le fun d hd => (b d hd).weight
    exact Nat.le_trans h (Nat.mul_le_mul_right _ a)
  | k + 1, _, .tup a b => by
    have h := weightAll_le fun d hd => (b d hd).weight
    exact Nat.le_trans h (Nat.mul_le_mul_right _ a)
theorem allOf {p : PyData → Bool} {q : List PyData → Bool} (h0 : q [] = true) (h1 : ∀ x xs, q (x :: xs) = (p x && q xs)) : ∀ {ds : List PyData}, (∀ d ∈ ds, p d = true) → q ds = true
  | [], _ => h0
  | d :: ds, h => by rw [h1, h d List.mem_cons_self, allOf h0 h1 fun x hx => h x (List.mem_cons_of_mem _ hx)]; rfl
theorem Pap.short : ∀ {k : Nat} {d : PyData}, Pap k d → d.leavesShort 8 = true
  | _, _, .non => rfl
  | _, _, .tru => rfl
  | _, _, .zero => by decide +kernel
  | _, _, .int (i := i) a b => by
    show decide ((Str.ofString (toString i)).length ≤ 8) = true
    have := int_text_length_le10 (a := i) (k := 4) (by omega) (by omega)
    refine decide_eq_true ?_
    rw [PySem.ofString_length]
    omega
  | _, _, .lst a b => allOf (q := PyData.leavesShortAll 8) rfl (fun _ _ => rfl) fun d hd => (b d hd).short
  | _, _, .tup a b => allOf (q := PyData.leavesShortAll 8) rfl (fun _ _ => rfl) fun d hd => (b d hd).short
theorem Pap.shows : ∀ {k : Nat} {d : PyData}, Pap k d → d.showable = true
  | _, _, .non => rfl
  | _, _, .tru => rfl
  | _, _, .zero => rfl
  | _, _, .int (i := i) a b => by
    refine decide_eq_true ?_
    have := log_small a b
    omega
  | _, _, .lst a b => allOf (q := PyData.showableAll) rfl (fun _ _ => rfl) fun d hd => (b d hd).shows
  | _, _, .tup a b => allOf (q := PyData.showableAll) rfl (fun _ _ => rfl) fun d hd => (b d hd).shows
theorem Pap.lay : ∀ {k : Nat} {d : PyData}, Pap k d → d.canLay0 = true
  | _, _, .non => rfl
  | _, _, .tru => rfl
  | _, _, .zero => by decide +kernel
  | _, _, .int a b => rfl
  | _, _, .lst a b => allOf (q := PyData.canLayAll0) rfl (fun _ _ => rfl) fun d hd => (b d hd).lay
  | _, _, .tup a b => allOf (q := PyData.canLayAll0) rfl (fun _ _ => rfl) fun d hd => (b d hd).lay
theorem depthAll_le {w : Nat} : ∀ {ds : List PyData}, (∀ d ∈ ds, d.depth ≤ w) → PyData.depthAll ds ≤ w
  | [], _ => Nat.zero_le _
  | d :: ds, h => by
    have h1 := h d List.mem_cons_self
    have h2 := depthAll_le (ds := ds) fun x hx => h x (List.mem_cons_of_mem _ hx)
    show max d.depth (PyData.depthAll ds) ≤ w
    omega
theorem Pap.deep : ∀ {k : Nat} {d : PyData}, Pap k d → d.depth ≤ k
  | _, _, .non => Nat.zero_le _
  | _, _, .tru => Nat.zero_le _
  | _, _, .zero => Nat.zero_le _
  | _, _, .int a b => Nat.zero_le _
  | _, _, .lst a b => Nat.succ_le_succ (depthAll_le fun d hd => (b d hd).deep)
  | _, _, .tup a b => Nat.succ_le_succ (depthAll_le fun d hd => (b d hd).deep)
theorem Pap.repr {d : PyData} (h : Pap 3 d) : opRepr (.fr d) = some (.fr (.str d.shown)) := by
  have h1 := h.shows
  have h2 : SeqAt.shaped d = true := by
    unfold SeqAt.shaped
    rw [h.lay, decide_eq_true (by have := h.deep; omega)]; rfl
  have h3 : d.shown.length ≤ sizeLine := by
    have a := PyData.shown_le 8 (by omega) d h.short
    have b := h.weight
    have c : wt 3 = 297930 := by decide
    rw [sizeLine_eq]
    omega
  show (some d).bind _ = _
  rw [Option.bind_some, h1, h2, decide_eq_true h3]
  rfl
theorem Pap.sm2 {d : PyData} (h : Pap 3 d) : Sm2 d := fun ds e => by
  subst e
  obtain ⟨a, b⟩ := h.list
  refine ⟨by omega, fun x hx es e => ?_⟩
  subst e
  have := (b _ hx).list.1
  omega
end K71

/-! what the law bends -/
namespace DL
open PySem PySem.Spec PyProof.Rows L2
/-- one thing more, at the end of an own list of frozen things -/
theorem append_fz {q : Bool} {e : M R} {ρ ρ' : MS} {i : Nat} {ps : List PyData} {d : PyData} (h0 : ρ[i]? = some (.own (.lst (ps.map T.fr)))) (he : fz e ρ = some (d, ρ')) (h1 : ρ'[i]? = some (.own (.lst (ps.map T.fr)))) (hl : ps.length ≤ 1000) :
    sExpr (mutM "list" q lAppend (eVar i) (bConsF e bNil)) ρ = some (.nx, ρ'.set i (.own (.lst ((ps ++ [d]).map T.fr)))) := by
  have hv : eVar i ρ = some (.bor i [], ρ) := by
    show (ρ[i]?.bind Sl.tree?).map _ = _
    rw [h0]; rfl
  have hb : bConsF e bNil ρ = some ([.fr d], ρ') := by
    have e0 : ∀ g : M R, ∀ ρ, bConsF g bNil ρ = (fz g ρ).bind fun x => (bNil x.2).map fun y => (.fr x.1 :: y.1, y.2) := fun _ _ => rfl
    rw [e0, he]; rfl
  have l0 : look ρ (.bor i []) = some (.lst (ps.map T.fr)) := by
    show (ρ[i]?.bind Sl.tree?).bind _ = _
    rw [h0]; rfl
  have ha := append_eq (q := q) (g := eVar i) (i := i) (s := .own (.lst (ps.map T.fr))) (t0 := .lst (ps.map T.fr)) hv l0 rfl hb h1 rfl (by rw [List.length_map, sizeLine_eq]; omega)
  have e4 : ps.map T.fr ++ [T.fr d] = (ps ++ [d]).map T.fr := by rw [List.map_append]; rfl
  rw [e4] at ha
  exact sExpr_eq ha
theorem fz_lst {g : M R} {ρ ρ' : MS} {ds : List PyData} (h : g ρ = some (.val (.lst (ds.map T.fr)), ρ')) : fz g ρ = some (.list ds, ρ') := fz_eq h (by show (T.erase _).map _ = _; rw [erase_lst]; rfl)
/-- slices of a frozen list -/
theorem slice_fr {qs : Bool} {ol oh : M (Option Int)} {ρ : MS} {i : Nat} {ds : List PyData} {l h : Option Int} (e : ρ[i]? = some (.own (.fr (.list ds)))) (hl : ol ρ = some (l, ρ)) (hh : oh ρ = some (h, ρ)) : sliceT opSl qs (eVar i) ol oh ρ = some (.val (.lst ((cutD ds l h).map T.fr)), ρ) := by
  have hv : eVar i ρ = some (.val (.fr (.list ds)), ρ) := by
    show (ρ[i]?.bind Sl.tree?).map _ = _
    rw [e]; rfl
  have e0 : ∀ g : M R, sliceT opSl qs g ol oh ρ = (g ρ).bind fun x => (ol x.2).bind fun l => (oh l.2).bind fun h => if x.1.waits qs = true then (look h.2 x.1).bind fun t => (opSl t l.1 h.1).map fun r => (.val r, h.2) else none := fun _ => rfl
  rw [e0, hv, Option.bind_some]
  show (ol ρ).bind _ = _
  rw [hl, Option.bind_some]
  show (oh ρ).bind _ = _
  rw [hh]
  rfl
theorem oSome_eq {g : M R} {ρ ρ' : MS} {x : R} {i : Int} (h : g ρ = some (x, ρ')) (l : look ρ' x = some (.fr (.int i))) : oSome g ρ = some (some i, ρ') := by
  have e0 : oSome g ρ = (g ρ).bind fun x => (look x.2 x.1).bind fun t => t.asInt.map fun i => (some i, x.2) := rfl
  rw [e0, h, Option.bind_some]
  show (look ρ' x).bind _ = _
  rw [l]; rfl
theorem cut_mem {ds : List PyData} {l h : Option Int} {x : PyData} (m : x ∈ cutD ds l h) : x ∈ ds := List.mem_of_mem_drop (List.mem_of_mem_take m)
theorem cut_len (ds : List PyData) (l h : Option Int) : (cutD ds l h).length ≤ ds.length := by
  unfold cutD
  rw [List.length_take, List.length_drop]
  omega
theorem add_fr {ds es : List PyData} (h : ds.length + es.length ≤ 1000) : opAdd (.fr (.list ds)) (.lst (es.map T.fr)) = some (.lst ((ds ++ es).map T.fr)) := by
  have e0 : opAdd (.fr (.list ds)) (.lst (es.map T.fr)) = match T.asLst (.fr (.list ds)), T.asLst (.lst (es.map T.fr)) with
    | some ds, some es => if cat2 ds es then some (.lst ((ds ++ es).map T.fr)) else none
    | _, _ => match T.asTup (.fr (.list ds)), T.asTup (.lst (es.map T.fr)) with
      | some ds, some es => if !ds.isEmpty && !es.isEmpty && cat2 ds es then some (.fr (.tuple (ds ++ es))) else none
      | _, _ => none := rfl
  rw [e0, view_lst]
  show (if cat2 ds es = true then _ else _) = _
  rw [if_pos (show cat2 ds es = true from decide_eq_true (by rw [sizeLine_eq]; omega))]
theorem add_lsts {q : Bool} {ga gb : M R} {ρ ρ1 ρ2 : MS} {ds es : List PyData} (h1 : ga ρ = some (.val (.lst (ds.map T.fr)), ρ1)) (h2 : gb ρ1 = some (.val (.lst (es.map T.fr)), ρ2)) (h : ds.length + es.length ≤ 1000) : bin q opAdd ga gb ρ = some (.val (.lst ((ds ++ es).map T.fr)), ρ2) :=
  bin_eq h1 h2 rfl rfl rfl (opAdd_lst' h)
where
  opAdd_lst' {ds es : List PyData} (h : ds.length + es.length ≤ 1000) : opAdd (.lst (ds.map T.fr)) (.lst (es.map T.fr)) = some (.lst ((ds ++ es).map T.fr)) := by
    have e0 : opAdd (.lst (ds.map T.fr)) (.lst (es.map T.fr)) = match T.asLst (.lst (ds.map T.fr)), T.asLst (.lst (es.map T.fr)) with
      | some ds, some es => if cat2 ds es then some (.lst ((ds ++ es).map T.fr)) else none
      | _, _ => match T.asTup (.lst (ds.map T.fr)), T.asTup (.lst (es.map T.fr)) with
        | some ds, some es => if !ds.isEmpty && !es.isEmpty && cat2 ds es then some (.fr (.tuple (ds ++ es))) else none
        | _, _ => none := rfl
    rw [e0, view_lst, view_lst]
    show (if cat2 ds es = true then _ else _) = _
    rw [if_pos (show cat2 ds es = true from decide_eq_true (by rw [sizeLine_eq]; omega))]
theorem eLst_eq {gs : M (List PyData)} {ρ ρ' : MS} {ds : List PyData} (h : gs ρ = some (ds, ρ')) (hl : ds.length ≤ 1000) : eLst gs ρ = some (.val (.lst (ds.map T.fr)), ρ') := by
  have e0 : eLst gs ρ = (gs ρ).bind fun x => if lineOk x.1 then some (.val (.lst (x.1.map T.fr)), x.2) else none := rfl
  rw [e0, h, Option.bind_some]
  show (if lineOk ds = true then _ else _) = _
  rw [if_pos (show lineOk ds = true from decide_eq_true (by rw [sizeLine_eq]; omega))]
theorem src_made {g : M R} {ρ ρ' : MS} {ds : List PyData} (h : g ρ = some (.val (.lst (ds.map T.fr)), ρ')) : srcV T.asList g ρ = some ((ds, none), ρ') := srcV_eq h rfl (view_list ds)
end DL
namespace K71
open PySem PySem.Spec PyProof.Rows L2 DL
/-- what a bent thing is made of -/
structure Val (vs : List PyData) : Prop where
  len : vs.length ≤ 14
  each : ∀ d ∈ vs, Pap 1 d
variable {f f' : Feed} {n : Nat} {vs : List PyData} {s3 s4 s5 s6 s7 : Sl}
def BS (f : Feed) (n : Nat) (vs : List PyData) (s3 s4 s5 s6 s7 : Sl) : MS := [.pin f.tree, ow (.int (n : Nat)), ow (.list vs), s3, s4, s5, s6, s7]
theorem draw_b (hf : f.ok) (many : Nat) (h0 : 0 < many) (hb : many < 1000000) {q : Bool} {gs : DL.M (List PyData)} (hgs : gs (BS f n vs s3 s4 s5 s6 s7) = some ([.int (many : Nat)], BS f n vs s3 s4 s5 s6 s7)) :
    ∃ (f' : Feed) (told : Nat), f'.ok ∧ told < many ∧ eFnL f__law_draw (lHere q (eVar 0) gs) (BS f n vs s3 s4 s5 s6 s7) = some (.val (.fr (.int (told : Nat))), BS f' n vs s3 s4 s5 s6 s7) := by
  obtain ⟨f', told, a, b, c, d⟩ := draw_var hf (i := 0) (s := .pin f.tree) (q := q) (many := (many : Int)) rfl (.inr rfl) rfl hgs (by omega) (by omega)
  refine ⟨f', told.toNat, a, by omega, ?_⟩
  rw [show ((told.toNat : Nat) : Int) = told by omega]
  exact d
theorem Val.pap (V : Val vs) : Pap 2 (.list vs) := .lst (by have := V.len; omega) V.each
theorem cut_pap (V : Val vs) (l h : Option Int) : Pap 2 (.list (cutD vs l h)) := .lst (by have := cut_len vs l h; have := V.len; omega) fun d hd => V.each d (cut_mem hd)
theorem len_v : un opLen (eVar 2) (BS f n vs s3 s4 s5 s6 s7) = some (.val (.fr (.int (vs.length : Nat))), BS f n vs s3 s4 s5 s6 s7) := len_list rfl
/-- the first eleven -/
theorem bent_a (V : Val vs) : ∃ ps : List PyData, ps.length = 11 ∧ (∀ p ∈ ps, Pap 3 p) ∧ eLst (aCons (eVar 2) (aCons (un opRev (eVar 2)) (aCons (sliceT opSl true (eVar 2) (oSome (eC (.int 1))) (oNone)) (aCons (sliceT opSl true (eVar 2) (oNone) (oSome (un opNeg (eC (.int 1))))) (aCons (bin true opAdd (eVar 2) (sliceT opSl true (eVar 2) (oNone) (oSome (eC (.int 1))))) (aCons (un opTupOf (eVar 2)) (aCons (eC .none) (aCons (eC (.bool true)) (aCons (eC (.str "0")) (aCons (eLst (aNil)) (aCons (eLst (aCons (eVar 2) (aNil))) (aNil))))))))))))
    (BS f n vs s3 s4 s5 s6 s7) = some (.val (.lst (ps.map T.fr)), BS f n vs s3 s4 s5 s6 s7) := by
  let ρ := BS f n vs s3 s4 s5 s6 s7
  have hv : V.pap = V.pap := rfl
  have i2 : fz (un opRev (eVar 2)) ρ = some (.list vs.reverse, ρ) := fz_lst (un_eq (x := .val (.fr (.list vs))) (t := .fr (.list vs)) rfl rfl rfl)
  have i3 : fz (sliceT opSl true (eVar 2) (oSome (eC (.int 1))) (oNone)) ρ = some (.list (cutD vs (some 1) none), ρ) := fz_lst (slice_fr rfl rfl rfl)
  have i4 : fz (sliceT opSl true (eVar 2) (oNone) (oSome (un opNeg (eC (.int 1))))) ρ = some (.list (cutD vs none (some (-1))), ρ) := fz_lst (slice_fr rfl rfl rfl)
  have s1 : sliceT opSl true (eVar 2) (oNone) (oSome (eC (.int 1))) ρ = some (.val (.lst ((cutD vs none (some 1)).map T.fr)), ρ) := slice_fr rfl rfl rfl
  have hc := cut_len vs none (some 1)
  have hl := V.len
  have i5 : fz (bin true opAdd (eVar 2) (sliceT opSl true (eVar 2) (oNone) (oSome (eC (.int 1))))) ρ = some (.list (vs ++ cutD vs none (some 1)), ρ) := fz_lst (bin_eq (x := .val (.fr (.list vs))) rfl s1 rfl rfl rfl (add_fr (by omega)))
  have hc1 : (cutD vs none (some 1)).length ≤ 1 := by
    unfold DL.cutD
    rw [List.length_take]
    show min (HT.sIx vs.length vs.length (some ((1 : Nat) : Int)) - 0) _ ≤ 1
    rw [HT.sIx_nat]
    omega
  have ha := aCons_fz (g := eVar 2) (ρ := ρ) (ρ1 := ρ) (d := .list vs) rfl (aCons_fz i2 (aCons_fz i3 (aCons_fz i4 (aCons_fz i5 (aCons_fz (g := un opTupOf (eVar 2)) (d := .tuple vs) (ρ1 := ρ) rfl (aCons_fz (g := eC .none) (d := .none) (ρ1 := ρ) rfl (aCons_fz (g := eC (.bool true)) (d := .bool true) (ρ1 := ρ) rfl (aCons_fz (g := eC (.str "0")) (d := .str "0") (ρ1 := ρ) rfl (aCons_fz (g := eLst aNil) (d := .list []) (ρ1 := ρ) rfl (aCons_fz (g := eLst (aCons (eVar 2) aNil)) (gs := aNil) (d := .list [.list vs]) (ρ1 := ρ) (ρ2 := ρ) (ds := []) rfl rfl))))))))))
  refine ⟨_, ?_, ?_, eLst_eq ha (by simp)⟩
  · rfl
  · intro p hp
    have hp : p ∈ [PyData.list vs, .list vs.reverse, .list (cutD vs (some 1) none), .list (cutD vs none (some (-1))), .list (vs ++ cutD vs none (some 1)), .tuple vs, .none, .bool true, .str "0", .list [], .list [.list vs]] := hp
    simp only [List.mem_cons, List.not_mem_nil, or_false] at hp
    rcases hp with rfl | rfl | rfl | rfl | rfl | rfl | rfl | rfl | rfl | rfl | rfl
    · exact V.pap.up
    · exact (Pap.lst (by rw [List.length_reverse]; omega) fun d hd => V.each d (List.mem_reverse.mp hd)).up
    · exact (cut_pap V _ _).up
    · exact (cut_pap V _ _).up
    · refine (Pap.lst (by rw [List.length_append]; omega) fun d hd => ?_).up
      rcases List.mem_append.mp hd with hd | hd
      · exact V.each d hd
      · exact V.each d (cut_mem hd)
    · exact (Pap.tup (by omega) V.each).up
    · exact .non
    · exact .tru
    · exact .zero
    · exact .lst (by simp) fun d hd => nomatch hd
    · exact .lst (by simp) fun d hd => by
        have : d = .list vs := by simpa using hd
        subst this
        exact V.pap
end K71

namespace K71
open PySem PySem.Spec PyProof.Rows L2 DL
variable {f f' : Feed} {n : Nat} {vs : List PyData} {s3 s4 s5 s6 s7 : Sl}
/-- an item put in the place of another -/
theorem bent_put (V : Val vs) {a : Nat} {x : PyData} (hx : Pap 1 x) {hi : Option Int} {lo : Option Int} {xs : List PyData} {gx : DL.M DL.R} {ol oh : DL.M (Option Int)} {q : Bool} {ρ : MS} {i : Nat} (hρ : ρ[i]? = some (ow (.list vs)))
    (ho : oh ρ = some (some (a : Int), ρ)) (h2 : ol ρ = some (lo, ρ)) (hlo : ∃ b : Nat, lo = some (b : Int) ∧ a ≤ b) (hg : gx ρ = some (.val (.lst ([x].map T.fr)), ρ)) :
    ∃ ds : List PyData, Pap 3 (.list ds) ∧ fz (bin q opAdd (bin q opAdd (sliceT opSl true (eVar i) (oNone) oh) gx) (sliceT opSl true (eVar i) ol (oNone))) ρ = some (.list ds, ρ) := by
  have hl := V.len
  have s1 := slice_fr (qs := true) (ol := oNone) (l := none) hρ rfl ho
  have s2 := slice_fr (qs := true) (oh := oNone) (h := none) hρ h2 rfl
  obtain ⟨b, rfl, hab⟩ := hlo
  have hc1 : (DL.cutD vs none (some (a : Int))).length ≤ a := by
    unfold DL.cutD
    rw [List.length_take]
    show min (HT.sIx vs.length vs.length (some ((a : Nat) : Int)) - 0) _ ≤ a
    rw [HT.sIx_nat]
    omega
  have hc2 : (DL.cutD vs (some (b : Int)) none).length ≤ vs.length - min b vs.length := by
    unfold DL.cutD
    rw [List.length_take, List.length_drop, HT.sIx_nat]
    omega
  have hc3 := cut_len vs none (some (a : Int))
  have a1 := add_lsts (q := q) s1 hg (by simp; omega)
  have a2 := add_lsts (q := q) a1 s2 (by simp; omega)
  refine ⟨_, (Pap.lst ?_ fun d hd => ?_).up, fz_lst a2⟩
  · simp only [List.length_append, List.length_cons, List.length_nil]
    omega
  · rcases List.mem_append.mp hd with hd | hd
    · rcases List.mem_append.mp hd with hd | hd
      · exact V.each d (cut_mem hd)
      · have : d = x := by simpa using hd
        subst this
        exact hx
    · exact V.each d (cut_mem hd)
def mFor : DL.M Fl := (sFor (srcV T.asList (eLst (aCons (eVar 1) (aCons (un opNeg (eC (.int 1))) (aCons (eC .none) (aCons (eC (.bool true)) (aCons (eC (.str "0")) (aCons (eLst (aNil)) (aCons (eLst (aCons (eVar 1) (aNil))) (aCons (eLst (aCons (eC (.int 0)) (aNil))) (aCons (eC (.int 0)) (aCons (eFnL f__law_draw (lHere true (eVar 0) (aCons (bin true opAdd (eVar 1) (eC (.int 1))) (aNil)))) (aCons (subs true opIx (eVar 2) (eVar 5)) (aNil)))))))))))))) (gNm 7) (sExpr (mutM "list" true lAppend (eVar 3) (bConsF (bin true opAdd (bin true opAdd (sliceT opSl true (eVar 2) (oNone) (oSome (eVar 4))) (eLst (aCons (eVar 7) (aNil)))) (sliceT opSl true (eVar 2) (oSome (bin true opAdd (eVar 4) (eC (.int 1)))) (oNone))) (bNil)))))
theorem bent_for (V : Val vs) (hf : f.ok) (hn : n ≤ 60) {a b : Nat} (hb : b < vs.length) {ps : List PyData} (hp : ps.length ≤ 100) (hP : ∀ p ∈ ps, Pap 3 p) : ∃ (f' : Feed) (ps' : List PyData) (s7' : Sl), f'.ok ∧ ps'.length = ps.length + 11 ∧ (∀ p ∈ ps', Pap 3 p) ∧
    mFor (BS f n vs (.own (.lst (ps.map T.fr))) (ow (.int (a : Nat))) (ow (.int (b : Nat))) s6 .non) = some (.nx, BS f' n vs (.own (.lst (ps'.map T.fr))) (ow (.int (a : Nat))) (ow (.int (b : Nat))) s6 s7') := by
  let ρ := BS f n vs (.own (.lst (ps.map T.fr))) (ow (.int (a : Nat))) (ow (.int (b : Nat))) s6 .non
  obtain ⟨f1, told, hf1, ht, hd⟩ := draw_b (n := n) (vs := vs) (s3 := .own (.lst (ps.map T.fr))) (s4 := ow (.int (a : Nat))) (s5 := ow (.int (b : Nat))) (s6 := s6) (s7 := .non) hf (n + 1) (by omega) (by omega) (q := true) (gs := aCons (bin true opAdd (eVar 1) (eC (.int 1))) aNil) (by
    have : bin true opAdd (eVar 1) (eC (.int 1)) ρ = some (.val (.fr (.int ((n : Int) + 1))), ρ) := rfl
    exact aCons_eq this rfl rfl)
  let ρ1 := BS f1 n vs (.own (.lst (ps.map T.fr))) (ow (.int (a : Nat))) (ow (.int (b : Nat))) s6 .non
  have hsub : fz (subs true opIx (eVar 2) (eVar 5)) ρ1 = some (vs[b], ρ1) := fz_eq (subs_val rfl rfl rfl (opIx_list hb)) rfl
  have ha := aCons_fz (g := eVar 1) (ρ := ρ) (ρ1 := ρ) (d := .int (n : Nat)) rfl (aCons_fz (g := un opNeg (eC (.int 1))) (ρ1 := ρ) (d := .int (-1)) rfl (aCons_fz (g := eC .none) (ρ1 := ρ) (d := .none) rfl (aCons_fz (g := eC (.bool true)) (ρ1 := ρ) (d := .bool true) rfl (aCons_fz (g := eC (.str "0")) (ρ1 := ρ) (d := .str "0") rfl (aCons_fz (g := eLst aNil) (ρ1 := ρ) (d := .list []) rfl (aCons_fz (g := eLst (aCons (eVar 1) aNil)) (ρ1 := ρ) (d := .list [.int (n : Nat)]) rfl (aCons_fz (g := eLst (aCons (eC (.int 0)) aNil)) (ρ1 := ρ) (d := .list [.int 0]) rfl (aCons_fz (g := eC (.int 0)) (ρ1 := ρ) (d := .int 0) rfl (aCons_fz (fz_eq hd rfl) (aCons_fz (gs := aNil) (ds := []) (ρ2 := ρ1) hsub rfl))))))))))
  have hsrc := src_made (eLst_eq ha (by simp))
  let xs : List PyData := [.int (n : Nat), .int (-1), .none, .bool true, .str "0", .list [], .list [.int (n : Nat)], .list [.int 0], .int 0, .int (told : Nat), vs[b]]
  have hxs : ∀ x ∈ xs, Pap 1 x := by
    intro x hx
    have hx : x ∈ [PyData.int (n : Nat), .int (-1), .none, .bool true, .str "0", .list [], .list [.int (n : Nat)], .list [.int 0], .int 0, .int (told : Nat), vs[b]] := hx
    simp only [List.mem_cons, List.not_mem_nil, or_false] at hx
    rcases hx with rfl | rfl | rfl | rfl | rfl | rfl | rfl | rfl | rfl | rfl | rfl
    · exact .int (by omega) (by omega)
    · exact .int (by omega) (by omega)
    · exact .non
    · exact .tru
    · exact .zero
    · exact .lst (by simp) fun d hd => nomatch hd
    · exact .lst (by simp) fun d hd => by
        have : d = .int (n : Nat) := by simpa using hd
        subst this
        exact .int (by omega) (by omega)
    · exact .lst (by simp) fun d hd => by
        have : d = .int 0 := by simpa using hd
        subst this
        exact .int (by omega) (by omega)
    · exact .int (by omega) (by omega)
    · exact .int (by omega) (by omega)
    · exact V.each _ (List.getElem_mem _)
  let S : Nat → MS → Prop := fun j ρ => ∃ (qs : List PyData) (s7 : Sl), qs.length = ps.length + j ∧ (∀ p ∈ qs, Pap 3 p) ∧ Fre s7 ∧ ρ = BS f1 n vs (.own (.lst (qs.map T.fr))) (ow (.int (a : Nat))) (ow (.int (b : Nat))) s6 s7
  obtain ⟨ρ', ρ3, ⟨qs, s7', q1, q2, q3, e⟩, hu, hfin⟩ := sFor_inv (ds := xs) (hd := none) (ρ1 := ρ1) (m := gNm 7) (n := sExpr (mutM "list" true lAppend (eVar 3) (bConsF (bin true opAdd (bin true opAdd (sliceT opSl true (eVar 2) (oNone) (oSome (eVar 4))) (eLst (aCons (eVar 7) (aNil)))) (sliceT opSl true (eVar 2) (oSome (bin true opAdd (eVar 4) (eC (.int 1)))) (oNone))) (bNil))))
    hsrc S ⟨ps, .non, rfl, hP, .inl rfl, rfl⟩ (fun j ρ hj hS => by
      obtain ⟨qs, s7, q1, q2, q3, rfl⟩ := hS
      have hj' : j < 11 := hj
      let x := xs[j]
      let ρb := BS f1 n vs (.own (.lst (qs.map T.fr))) (ow (.int (a : Nat))) (ow (.int (b : Nat))) s6 (ow x)
      obtain ⟨ds, hds, hz⟩ := bent_put V (i := 2) (x := x) (hxs x (List.getElem_mem _)) (q := true) (ρ := ρb) (a := a) (lo := some ((a + 1 : Nat) : Int)) (oh := oSome (eVar 4)) (ol := oSome (bin true opAdd (eVar 4) (eC (.int 1)))) (gx := eLst (aCons (eVar 7) aNil)) (hi := none) (xs := []) rfl rfl rfl ⟨a + 1, rfl, by omega⟩ (eLst_eq (ds := [x]) rfl (by simp))
      have hap := append_fz (q := true) (i := 3) (ps := qs) (ρ := ρb) (ρ' := ρb) rfl hz rfl (by omega)
      refine ⟨ρb, _, ?_, .inl hap, qs ++ [.list ds], _, by rw [List.length_append]; simp; omega, fun p hp => ?_, .inr ⟨_, rfl⟩, rfl⟩
      · rcases q3 with rfl | ⟨d, rfl⟩ <;> rfl
      · rcases List.mem_append.mp hp with hp | hp
        · exact q2 p hp
        · have : p = .list ds := by simpa using hp
          subst this
          exact hds) (fun ρ' _ => ⟨ρ', rfl⟩)
  subst e
  have hu := Option.some.inj hu
  subst hu
  exact ⟨f1, qs, s7', hf1, q1, q2, hfin⟩
end K71

namespace K71
open PySem PySem.Spec PyProof.Rows L2 DL
variable {f f' : Feed} {n : Nat} {vs : List PyData} {s3 s4 s5 s6 s7 : Sl}
theorem set_frs (vs : List PyData) (k : Nat) (d : PyData) : (vs.map T.fr).set k (.fr d) = (vs.set k d).map T.fr := by rw [List.map_set]
theorem mem_set {vs : List PyData} {k : Nat} {d x : PyData} (h : x ∈ vs.set k d) : x ∈ vs ∨ x = d := by
  rcases List.mem_or_eq_of_mem_set h with h | h
  · exact .inl h
  · exact .inr h
theorem bent_ok (V : Val vs) (hf : f.ok) (hn : n ≤ 60) : ∃ (f' : Feed) (ps : List PyData), f'.ok ∧ ps.length ≤ 30 ∧ (∀ p ∈ ps, Pap 3 p) ∧ f__law_bent [.pin f.tree, ow (.int (n : Nat)), ow (.list vs)] = some (.lst (ps.map T.fr), [.pin f'.tree, .non, .non]) := by
  obtain ⟨ps, p1, p2, ha⟩ := bent_a (f := f) (n := n) (s3 := .non) (s4 := .non) (s5 := .non) (s6 := .non) (s7 := .non) V
  have hl := V.len
  let ρ1 := BS f n vs (.own (.lst (ps.map T.fr))) .non .non .non .non
  have t1 : sSet 3 _ (BS f n vs .non .non .non .non .non) = some (.nx, ρ1) := sSet_val (i := 3) (ρ1 := BS f n vs .non .non .non .non .non) ha rfl
  have c1 := cOf_eq (bin_eq (q := true) (gb := eC (.int 0)) (len_v (f := f) (n := n) (vs := vs) (s3 := .own (.lst (ps.map T.fr))) (s4 := .non) (s5 := .non) (s6 := .non) (s7 := .non)) rfl rfl rfl rfl (DL.gt_int _ _)) rfl
  by_cases h0 : 0 < vs.length
  · rw [decide_eq_true (by omega)] at c1
    obtain ⟨f1, a, hf1, hta, hd1⟩ := draw_b (n := n) (vs := vs) (s3 := .own (.lst (ps.map T.fr))) (s4 := .non) (s5 := .non) (s6 := .non) (s7 := .non) hf vs.length h0 (by omega) (q := true) (gs := aCons (un opLen (eVar 2)) aNil) (aCons_eq len_v rfl rfl)
    have t4 : sSet 4 _ ρ1 = some (.nx, BS f1 n vs (.own (.lst (ps.map T.fr))) (ow (.int (a : Nat))) .non .non .non) := sSet_val (i := 4) (ρ1 := BS f1 n vs (.own (.lst (ps.map T.fr))) .non .non .non .non) hd1 rfl
    obtain ⟨f2, b, hf2, htb, hd2⟩ := draw_b (n := n) (vs := vs) (s3 := .own (.lst (ps.map T.fr))) (s4 := ow (.int (a : Nat))) (s5 := .non) (s6 := .non) (s7 := .non) hf1 vs.length h0 (by omega) (q := true) (gs := aCons (un opLen (eVar 2)) aNil) (aCons_eq len_v rfl rfl)
    have t5 : sSet 5 _ (BS f1 n vs (.own (.lst (ps.map T.fr))) (ow (.int (a : Nat))) .non .non .non) = some (.nx, BS f2 n vs (.own (.lst (ps.map T.fr))) (ow (.int (a : Nat))) (ow (.int (b : Nat))) .non .non) := sSet_val (i := 5) (ρ1 := BS f2 n vs (.own (.lst (ps.map T.fr))) (ow (.int (a : Nat))) .non .non .non) hd2 rfl
    let Z : Sl → MS := fun s6 => BS f2 n vs (.own (.lst (ps.map T.fr))) (ow (.int (a : Nat))) (ow (.int (b : Nat))) s6 .non
    have t6 : sSet 6 (un opListOf (eVar 2)) (Z .non) = some (.nx, Z (.own (.lst (vs.map T.fr)))) := sSet_val (i := 6) (ρ1 := Z .non) (un_eq (x := .val (.fr (.list vs))) (t := .fr (.list vs)) rfl rfl rfl) rfl
    have t7 : sPut true putAny (subs true opIx (eVar 2) (eVar 5)) (eVar 6) (eVar 4) (Z (.own (.lst (vs.map T.fr)))) = some (.nx, Z (.own (.lst ((vs.set a vs[b]).map T.fr)))) := by
      have := put_own (qb := true) (g := subs true opIx (eVar 2) (eVar 5)) (ga := eVar 6) (gb := eVar 4) (ρ := Z (.own (.lst (vs.map T.fr)))) (ρ1 := Z (.own (.lst (vs.map T.fr)))) (ρ2 := Z (.own (.lst (vs.map T.fr)))) (ρ3 := Z (.own (.lst (vs.map T.fr)))) (i := 6) (k := a) (s := .own (.lst (vs.map T.fr))) (ts := vs.map T.fr) (d := vs[b]) (fz_eq (subs_val rfl rfl rfl (opIx_list htb)) rfl) rfl rfl rfl rfl rfl (by rw [List.length_map]; exact hta)
      rw [set_frs] at this
      exact this
    let us := vs.set a vs[b]
    have hul : us.length = vs.length := List.length_set
    have t8 : sPut true putAny (subs true opIx (eVar 2) (eVar 4)) (eVar 6) (eVar 5) (Z (.own (.lst (us.map T.fr)))) = some (.nx, Z (.own (.lst ((us.set b vs[a]).map T.fr)))) := by
      have := put_own (qb := true) (g := subs true opIx (eVar 2) (eVar 4)) (ga := eVar 6) (gb := eVar 5) (ρ := Z (.own (.lst (us.map T.fr)))) (ρ1 := Z (.own (.lst (us.map T.fr)))) (ρ2 := Z (.own (.lst (us.map T.fr)))) (ρ3 := Z (.own (.lst (us.map T.fr)))) (i := 6) (k := b) (s := .own (.lst (us.map T.fr))) (ts := us.map T.fr) (d := vs[a]) (fz_eq (subs_val rfl rfl rfl (opIx_list hta)) rfl) rfl rfl rfl rfl rfl (by rw [List.length_map, hul]; exact htb)
      rw [set_frs] at this
      exact this
    let ws := us.set b vs[a]
    have hwl : ws.length = vs.length := List.length_set.trans hul
    have hws : ∀ d ∈ ws, Pap 1 d := fun d hd => by
      rcases mem_set hd with hd | rfl
      · rcases mem_set hd with hd | rfl
        · exact V.each d hd
        · exact V.each _ (List.getElem_mem _)
      · exact V.each _ (List.getElem_mem _)
    have hz6 : fz (eVar 6) (Z (.own (.lst (ws.map T.fr)))) = some (.list ws, Z (ow (.list ws))) := (show DS (.own (.lst (ws.map T.fr))) ws from .inl rfl).frz (i := 6) rfl
    have t9 := append_fz (q := true) (i := 3) (ps := ps) (ρ := Z (.own (.lst (ws.map T.fr)))) (ρ' := Z (ow (.list ws))) rfl hz6 rfl (by omega)
    let ps2 := ps ++ [PyData.list ws]
    have hps2 : ∀ p ∈ ps2, Pap 3 p := fun p hp => by
      rcases List.mem_append.mp hp with hp | hp
      · exact p2 p hp
      · have : p = .list ws := by simpa using hp
        subst this
        exact (Pap.lst (by omega) hws).up
    have hl2 : ps2.length = 12 := by show (ps ++ [PyData.list ws]).length = 12; rw [List.length_append, p1]; rfl
    obtain ⟨f3, ps3, s7', hf3, q1, q2, t10⟩ := bent_for V hf2 hn (a := a) (b := b) (s6 := ow (.list ws)) htb (ps := ps2) (by omega) hps2
    let ρ11 := BS f3 n vs (.own (.lst (ps3.map T.fr))) (ow (.int (a : Nat))) (ow (.int (b : Nat))) (ow (.list ws)) s7'
    obtain ⟨ds, hds, hz⟩ := bent_put V (i := 2) (x := .list []) (.lst (by simp) fun d hd => nomatch hd) (q := true) (ρ := ρ11) (a := a) (lo := some (a : Int)) (oh := oSome (eVar 4)) (ol := oSome (eVar 4)) (gx := eLst (aCons (eLst aNil) aNil)) (hi := none) (xs := []) rfl rfl rfl ⟨a, rfl, Nat.le_refl _⟩ (eLst_eq (ds := [.list []]) rfl (by simp))
    have t11 := append_fz (q := true) (i := 3) (ps := ps3) (ρ := ρ11) (ρ' := ρ11) rfl hz rfl (by omega)
    let ps4 := ps3 ++ [PyData.list ds]
    let ρ12 := BS f3 n vs (.own (.lst (ps4.map T.fr))) (ow (.int (a : Nat))) (ow (.int (b : Nat))) (ow (.list ws)) s7'
    refine ⟨f3, ps4, hf3, by show (ps3 ++ [PyData.list ds]).length ≤ 30; rw [List.length_append, q1, hl2]; simp, fun p hp => ?_, runFn_bor (i := 3) (ρ := ρ12) ⟨rfl, rfl⟩ (sSeq_eq t1 (sSeq_eq (ρ1 := ρ12) (sIf_eq c1 ?_) rfl)) rfl⟩
    · rcases List.mem_append.mp hp with hp | hp
      · exact q2 p hp
      · have : p = .list ds := by simpa using hp
        subst this
        exact hds
    · rw [if_pos rfl]
      exact sSeq_eq t4 (sSeq_eq t5 (sSeq_eq t6 (sSeq_eq t7 (sSeq_eq t8 (sSeq_eq t9 (sSeq_eq t10 t11))))))
  · rw [decide_eq_false (by omega)] at c1
    exact ⟨f, ps, hf, by omega, p2, runFn_bor (i := 3) (ρ := ρ1) ⟨rfl, rfl⟩ (sSeq_eq t1 (sSeq_eq (ρ1 := ρ1) (sIf_eq c1 rfl) rfl)) rfl⟩
end K71

namespace DL
open PySem PySem.Spec PyProof.Rows L2
theorem lcLoopK_pure {vs : List Nat} {m : GM} {c : M Bool} {e : M R} {g : PyData → T} : ∀ {ds : List PyData} {ρ : MS}
    (h : ∀ d ∈ ds, ∃ ρ1, m d (wipeM vs ρ) = some ρ1 ∧ c ρ1 = some (true, ρ1) ∧ kp e ρ1 = some (g d, ρ1) ∧ wipeM vs ρ1 = wipeM vs ρ), ∃ ρ', lcLoopK vs m c e ds ρ = some (ds.map g, ρ') ∧ wipeM vs ρ' = wipeM vs ρ
  | [], ρ, _ => ⟨ρ, rfl, rfl⟩
  | d :: ds, ρ, h => by
    obtain ⟨ρ1, h1, h2, h3, h4⟩ := h d List.mem_cons_self
    obtain ⟨ρ', a, b⟩ := lcLoopK_pure (ds := ds) (ρ := ρ1) (g := g) (m := m) (c := c) (e := e) (vs := vs) fun x hx => by rw [h4]; exact h x (List.mem_cons_of_mem _ hx)
    have e0 : lcLoopK vs m c e (d :: ds) ρ = (m d (wipeM vs ρ)).bind fun ρ1 => (c ρ1).bind fun x => if x.1 then (kp e x.2).bind fun y => (lcLoopK vs m c e ds y.2).map fun z => (y.1 :: z.1, z.2) else lcLoopK vs m c e ds x.2 := rfl
    refine ⟨ρ', ?_, b.trans h4⟩
    rw [e0, h1, Option.bind_some, h2, Option.bind_some, if_pos rfl, h3, Option.bind_some, a]
    rfl
theorem lcKM_pure {src : Src} {vs : List Nat} {m : GM} {c : M Bool} {e : M R} {ρ ρ1 : MS} {ds : List PyData} (g : PyData → T) (hs : src ρ = some ((ds, none), ρ1)) (hl : ds.length ≤ 1000)
    (h : ∀ d ∈ ds, ∃ ρ2, m d (wipeM vs ρ1) = some ρ2 ∧ c ρ2 = some (true, ρ2) ∧ kp e ρ2 = some (g d, ρ2) ∧ wipeM vs ρ2 = wipeM vs ρ1) (hp : (vs.all fun v => plainSl ρ1[v]?) = true) :
    lcKM src vs m c e ρ = some (.val (.lst (ds.map g)), giveBack vs ρ1 (wipeM vs ρ1)) := by
  obtain ⟨ρ', a, b⟩ := lcLoopK_pure h
  have e0 : lcKM src vs m c e ρ = (src ρ).bind fun x => if ((vs.all fun v => plainSl (hideM x.1.2 x.2)[v]?) && lineOk x.1.1) = true then
    (lcLoopK vs m c e x.1.1 (hideM x.1.2 x.2)).bind fun z => (unhide x.1.2 x.2 (giveBack vs (hideM x.1.2 x.2) (wipeM vs z.2))).map fun ρ3 => (R.val (.lst z.1), ρ3) else none := rfl
  rw [e0, hs, Option.bind_some]
  show (if ((vs.all fun v => plainSl ρ1[v]?) && lineOk ds) = true then (lcLoopK vs m c e ds ρ1).bind fun z => some (R.val (.lst z.1), giveBack vs ρ1 (wipeM vs z.2)) else none) = _
  rw [hp, show lineOk ds = true from decide_eq_true (by rw [sizeLine_eq]; omega), if_pos (show (true && true) = true from rfl), a, Option.bind_some, b]
theorem mutMO_eq {f : T → List T → Option (T × T)} {g : M R} {G : Fn} {gl : M (List PyData × R × List PyData)} {ρ ρ2 ρ3 : MS} {i : Nat} {p : Path} {t0 t u t' r : T} {y : List PyData × R × List PyData} {d : PyData} {s : Sl} (h1 : g ρ = some (.bor i p, ρ)) (l0 : look ρ (.bor i p) = some t0) (ty : tyT "list" t0 = true)
    (h2 : gl ρ = some (y, ρ2)) (nf : notFrom i y.2.1 = true) (h3 : eFnL G gl ρ = some (.val (.fr d), ρ3)) (hs : ρ3[i]? = some s) (ht : s.tree? = some t) (hg : t.get p = some u) (hf : f u [.fr d] = some (t', r)) :
    mutMO "list" f g G gl ρ = some (.val r, ρ3.set i (s.with (t.put p t'))) := by
  have e0 : mutMO "list" f g G gl ρ = (g ρ).bind fun x => (look x.2 x.1).bind fun t0 => if tyT "list" t0 = true then
    match x.1 with
    | .bor i p => (gl x.2).bind fun y => if notFrom i y.1.2.1 = true then (eFnL G gl x.2).bind fun z => match z.1 with
      | .val (.fr d) => z.2[i]?.bind fun s => s.tree?.bind fun t => (t.get p).bind fun u => (f u [.fr d]).map fun r => (.val r.2, z.2.set i (s.with (t.put p r.1)))
      | _ => none else none
    | .val _ => none else none := rfl
  rw [e0, h1, Option.bind_some]
  show (look ρ (.bor i p)).bind _ = _
  rw [l0, Option.bind_some, if_pos ty]
  show (gl ρ).bind _ = _
  rw [h2, Option.bind_some]
  show (if notFrom i y.2.1 = true then _ else _) = _
  rw [if_pos nf, h3, Option.bind_some]
  show (ρ3[i]?.bind _) = _
  rw [hs, Option.bind_some, ht, Option.bind_some, hg, Option.bind_some, hf]
  rfl
theorem erase_set : ∀ {ts : List T} {ds : List PyData} {k : Nat} {t : T} {d : PyData}, T.eraseAll ts = some ds → t.erase = some d → T.eraseAll (ts.set k t) = some (ds.set k d)
  | [], ds, k, t, d, h, _ => by
    have : ([] : List PyData) = ds := Option.some.inj h
    subst this; rfl
  | x :: ts, ds, 0, t, d, h, h2 => by
    have h : (x.erase.bind fun d => (T.eraseAll ts).map (d :: ·)) = some ds := h
    obtain ⟨d0, e1, e2⟩ := Option.bind_eq_some_iff.mp h
    obtain ⟨es, e3, rfl⟩ := Option.map_eq_some_iff.mp e2
    show (t.erase.bind fun d => (T.eraseAll ts).map (d :: ·)) = _
    rw [h2, Option.bind_some, e3]; rfl
  | x :: ts, ds, k + 1, t, d, h, h2 => by
    have h : (x.erase.bind fun d => (T.eraseAll ts).map (d :: ·)) = some ds := h
    obtain ⟨d0, e1, e2⟩ := Option.bind_eq_some_iff.mp h
    obtain ⟨es, e3, rfl⟩ := Option.map_eq_some_iff.mp e2
    show (x.erase.bind fun d => (T.eraseAll (ts.set k t)).map (d :: ·)) = _
    rw [e1, Option.bind_some, erase_set e3 h2]; rfl
end DL
namespace K71
open PySem PySem.Spec PyProof.Rows L2 DL
variable {f f' : Feed} {LN : List (List Nat)} {s2 s3 s4 s5 s6 : Sl}
def oT (xs : List Nat) : T := .lst ((natD xs).map T.fr)
theorem erase_oT : ∀ LN : List (List Nat), T.eraseAll (LN.map oT) = some (LD LN)
  | [] => rfl
  | xs :: LN => by
    show ((oT xs).erase.bind fun d => (T.eraseAll (LN.map oT)).map (d :: ·)) = _
    rw [erase_oT LN, show (oT xs).erase = some (.list (natD xs)) from erase_lst _]; rfl
theorem LD_set (MN : List (List Nat)) (c : Nat) (zs : List Nat) : LD (MN.set c zs) = (LD MN).set c (.list (natD zs)) := by
  unfold LD
  rw [List.map_set]
def XS (f : Feed) (LN : List (List Nat)) (s2 s3 s4 s5 s6 : Sl) : MS := [.pin f.tree, ow (.list (LD LN)), s2, s3, s4, s5, s6]
theorem draw_x (hf : f.ok) (many : Nat) (h0 : 0 < many) (hb : many < 1000000) {q : Bool} {gs : DL.M (List PyData)} (hgs : gs (XS f LN s2 s3 s4 s5 s6) = some ([.int (many : Nat)], XS f LN s2 s3 s4 s5 s6)) :
    ∃ (f' : Feed) (told : Nat), f'.ok ∧ told < many ∧ eFnL f__law_draw (lHere q (eVar 0) gs) (XS f LN s2 s3 s4 s5 s6) = some (.val (.fr (.int (told : Nat))), XS f' LN s2 s3 s4 s5 s6) := by
  obtain ⟨f', told, a, b, c, d⟩ := draw_var hf (i := 0) (s := .pin f.tree) (q := q) (many := (many : Int)) rfl (.inr rfl) rfl hgs (by omega) (by omega)
  refine ⟨f', told.toNat, a, by omega, ?_⟩
  rw [show ((told.toNat : Nat) : Int) = told by omega]
  exact d
theorem len_o {MN : List (List Nat)} : un opLen (eVar 2) (XS f LN (.own (.lst (MN.map oT))) s3 s4 s5 s6) = some (.val (.fr (.int (MN.length : Nat))), XS f LN (.own (.lst (MN.map oT))) s3 s4 s5 s6) := by
  refine un_eq (x := .bor 2 []) (t := .lst (MN.map oT)) rfl rfl ?_
  show some (T.fr (.int (((MN.map oT).length : Nat) : Int))) = _
  rw [List.length_map]
theorem kid_o {MN : List (List Nat)} {k j : Nat} (hk : k < MN.length) (hj : (XS f LN (.own (.lst (MN.map oT))) s3 s4 s5 s6)[j]? = some (ow (.int (k : Nat)))) : subs true opIx (eVar 2) (eVar j) (XS f LN (.own (.lst (MN.map oT))) s3 s4 s5 s6) = some (.bor 2 [k], XS f LN (.own (.lst (MN.map oT))) s3 s4 s5 s6) ∧ look (XS f LN (.own (.lst (MN.map oT))) s3 s4 s5 s6) (.bor 2 [k]) = some (oT MN[k]) := by
  let ρ := XS f LN (.own (.lst (MN.map oT))) s3 s4 s5 s6
  have hv : eVar j ρ = some (.val (.fr (.int (k : Nat))), ρ) := by
    show (ρ[j]?.bind Sl.tree?).map _ = _
    rw [hj]; rfl
  have h := subs_kid (q := true) (f := opIx) (gb := eVar j) (ρ := ρ) (i := 2) (s := .own (.lst (MN.map oT))) (t := .lst (MN.map oT)) (ts := MN.map oT) (y := .val (.fr (.int (k : Nat)))) (k := k) rfl rfl (.inl rfl) hv rfl (by rw [List.length_map]; exact hk)
  rw [List.getElem_map] at h
  refine ⟨h, ?_⟩
  show (((MN.map oT)[k]?).bind fun u => u.get []) = _
  rw [List.getElem?_map, List.getElem?_eq_getElem hk]; rfl
theorem moved_ok (hf : f.ok) (h1 : 1 ≤ LN.length) (hl : LN.length ≤ 14) (he : ∀ xs ∈ LN, xs.length ≤ 14 ∧ ∀ x ∈ xs, x ≤ 1000) : ∃ (f' : Feed) (t : T) (d : PyData), f'.ok ∧ t.erase = some d ∧ Pap 2 d ∧ f__law_moved_row [.pin f.tree, ow (.list (LD LN))] = some (t, [.pin f'.tree, .non]) := by
  have papL : ∀ MN : List (List Nat), MN.length ≤ 14 → (∀ xs ∈ MN, xs.length ≤ 15 ∧ ∀ x ∈ xs, x ≤ 1000) → Pap 2 (.list (LD MN)) := fun MN h1 h2 => by
    refine .lst (by rw [LD_len]; omega) fun d hd => ?_
    obtain ⟨xs, hx, rfl⟩ := List.mem_map.mp hd
    obtain ⟨a, b⟩ := h2 xs hx
    refine .lst (by rw [natD_len]; omega) fun d hd => ?_
    obtain ⟨x, hx2, rfl⟩ := List.mem_map.mp hd
    have := b x hx2
    exact .int (by omega) (by omega)
  let ρ0 := XS f LN .non .non .non .non .non
  have hc := lcKM_pure (vs := [6]) (m := gNm 6) (c := cYes) (e := un opListOf (eVar 6)) (fun d => match d with | .list es => .lst (es.map T.fr) | _ => .fr .none) (src_list (ds := LD LN) (ρ := ρ0) (i := 1) rfl) (by rw [LD_len]; omega) (fun d hd => by
    obtain ⟨xs, hx, rfl⟩ := List.mem_map.mp hd
    exact ⟨XS f LN .non .non .non .non (ow (.list (natD xs))), rfl, rfl, rfl, rfl⟩) rfl
  have hmap : (LD LN).map (fun d => match d with | .list es => T.lst (es.map T.fr) | _ => .fr .none) = LN.map oT := by
    unfold LD
    rw [List.map_map]; rfl
  rw [hmap] at hc
  have t2 : sSet 2 _ ρ0 = some (.nx, XS f LN (.own (.lst (LN.map oT))) .non .non .non .non) := sSet_val (i := 2) (ρ1 := ρ0) hc rfl
  obtain ⟨f1, a, hf1, hta, hd1⟩ := draw_x (LN := LN) (s2 := .own (.lst (LN.map oT))) (s3 := .non) (s4 := .non) (s5 := .non) (s6 := .non) hf LN.length (by omega) (by omega) (q := true) (gs := aCons (un opLen (eVar 2)) aNil) (aCons_eq len_o rfl rfl)
  let ρ3 := XS f1 LN (.own (.lst (LN.map oT))) (ow (.int (a : Nat))) .non .non .non
  have t3 : sSet 3 _ (XS f LN (.own (.lst (LN.map oT))) .non .non .non .non) = some (.nx, ρ3) := sSet_val (i := 3) (ρ1 := XS f1 LN (.own (.lst (LN.map oT))) .non .non .non .non) hd1 rfl
  obtain ⟨k1, k2⟩ := kid_o (f := f1) (LN := LN) (MN := LN) (s3 := ow (.int (a : Nat))) (s4 := .non) (s5 := .non) (s6 := .non) (j := 3) hta rfl
  have hlk : un opLen (subs true opIx (eVar 2) (eVar 3)) ρ3 = some (.val (.fr (.int (LN[a].length : Nat))), ρ3) := by
    refine un_eq k1 k2 ?_
    show some (T.fr (.int ((((natD LN[a]).map T.fr).length : Nat) : Int))) = _
    rw [List.length_map, natD_len]
  have c1 := cOf_eq (bin_eq (q := true) (gb := eC (.int 0)) hlk rfl rfl rfl rfl (DL.gt_int _ _)) rfl
  obtain ⟨ha1, ha2⟩ := he _ (List.getElem_mem hta)
  by_cases h0 : 0 < LN[a].length
  · rw [decide_eq_true (by omega)] at c1
    have hgs : aCons (un opLen (subs true opIx (eVar 2) (eVar 3))) aNil ρ3 = some ([.int (LN[a].length : Nat)], ρ3) := aCons_eq hlk rfl rfl
    obtain ⟨f2, b, hf2, htb, hd2⟩ := draw_x (LN := LN) (s2 := .own (.lst (LN.map oT))) (s3 := ow (.int (a : Nat))) (s4 := .non) (s5 := .non) (s6 := .non) hf1 LN[a].length h0 (by omega) (q := true) hgs
    let xs := LN[a]
    have hpop : lPop (oT xs) [.fr (.int (b : Nat))] = some (oT (xs.eraseIdx b), .fr (.int (xs[b] : Nat))) := by
      have hk : b < ((natD xs).map T.fr).length := by rw [List.length_map, natD_len]; exact htb
      have e1 : ((natD xs).map T.fr)[b] = T.fr (.int (xs[b] : Nat)) := by rw [List.getElem_map, natD_get]
      have e2 : ((natD xs).map T.fr).eraseIdx b = (natD (xs.eraseIdx b)).map T.fr := by
        unfold natD
        rw [map_erase, map_erase]
      unfold lPop
      have hc : (decide (-(2 ^ 63) ≤ ((b : Nat) : Int)) && decide (((b : Nat) : Int) < 2 ^ 63)) = true := by
        rw [decide_eq_true (by omega), decide_eq_true (by omega)]; rfl
      have hi : seqIndex? ((b : Nat) : Int) ((natD xs).map T.fr).length = some b := by
        rw [seqIndex_of (by omega) (by omega)]
        simp
      show (if _ then _ else _) = _
      rw [if_pos hc]
      show ((seqIndex? ((b : Nat) : Int) ((natD xs).map T.fr).length).bind fun k => ((natD xs).map T.fr)[k]?.map fun r => (T.lst (((natD xs).map T.fr).eraseIdx k), r)) = _
      rw [hi, Option.bind_some, List.getElem?_eq_getElem hk, e1, e2]; rfl
    have hgl : lHere true (eVar 0) (aCons (un opLen (subs true opIx (eVar 2) (eVar 3))) aNil) ρ3 = some (([], .bor 0 [], [.int (LN[a].length : Nat)]), ρ3) := lHere_gen (ρ1 := ρ3) rfl hgs rfl
    have hget : (T.lst (LN.map oT)).get [a] = some (oT xs) := by
      show (((LN.map oT)[a]?).bind fun u => u.get []) = _
      rw [List.getElem?_map, List.getElem?_eq_getElem hta]; rfl
    have hm := mutMO_eq (f := lPop) (G := f__law_draw) (i := 2) (p := [a]) (s := .own (.lst (LN.map oT))) (t := .lst (LN.map oT)) k1 k2 rfl hgl rfl hd2 rfl rfl hget hpop
    let MN := LN.set a (xs.eraseIdx b)
    have hput : (T.lst (LN.map oT)).put [a] (oT (xs.eraseIdx b)) = .lst (MN.map oT) := by
      show (match (LN.map oT)[a]? with
        | none => T.lst (LN.map oT)
        | some x => T.lst ((LN.map oT).set a (x.put [] (oT (xs.eraseIdx b))))) = _
      rw [List.getElem?_map, List.getElem?_eq_getElem hta]
      show T.lst ((LN.map oT).set a (oT (xs.eraseIdx b))) = _
      rw [← List.map_set]
    have t4 : sSet 4 (mutMO "list" lPop (subs true opIx (eVar 2) (eVar 3)) f__law_draw (lHere true (eVar 0) (aCons (un opLen (subs true opIx (eVar 2) (eVar 3))) aNil))) ρ3 = some (.nx, XS f2 LN (.own (.lst (MN.map oT))) (ow (.int (a : Nat))) (ow (.int (xs[b] : Nat))) .non .non) := by
      have := sSet_val (i := 4) hm (by rfl)
      rw [hput] at this
      exact this
    have hMl : MN.length = LN.length := List.length_set
    have hMe : ∀ ys ∈ MN, ys.length ≤ 14 ∧ ∀ x ∈ ys, x ≤ 1000 := fun ys hy => by
      rcases List.mem_or_eq_of_mem_set hy with hy | rfl
      · exact he ys hy
      · refine ⟨by rw [List.length_eraseIdx_of_lt htb]; have : xs.length ≤ 14 := ha1; omega, fun x hx => ha2 x (List.mem_of_mem_eraseIdx hx)⟩
    obtain ⟨f3, c, hf3, htc, hd3⟩ := draw_x (LN := LN) (s2 := .own (.lst (MN.map oT))) (s3 := ow (.int (a : Nat))) (s4 := ow (.int (xs[b] : Nat))) (s5 := .non) (s6 := .non) hf2 MN.length (by omega) (by omega) (q := true) (gs := aCons (un opLen (eVar 2)) aNil) (aCons_eq len_o rfl rfl)
    let ρ5 := XS f3 LN (.own (.lst (MN.map oT))) (ow (.int (a : Nat))) (ow (.int (xs[b] : Nat))) (ow (.int (c : Nat))) .non
    have t5 : sSet 5 _ (XS f2 LN (.own (.lst (MN.map oT))) (ow (.int (a : Nat))) (ow (.int (xs[b] : Nat))) .non .non) = some (.nx, ρ5) := sSet_val (i := 5) (ρ1 := XS f3 LN (.own (.lst (MN.map oT))) (ow (.int (a : Nat))) (ow (.int (xs[b] : Nat))) .non .non) hd3 rfl
    obtain ⟨j1, j2⟩ := kid_o (f := f3) (LN := LN) (MN := MN) (s3 := ow (.int (a : Nat))) (s4 := ow (.int (xs[b] : Nat))) (s5 := ow (.int (c : Nat))) (s6 := .non) (j := 5) htc rfl
    obtain ⟨hy1, hy2⟩ := hMe _ (List.getElem_mem htc)
    obtain ⟨zs, hzp, hzs⟩ := sorted_nat (MN[c] ++ [xs[b]])
    have hadd : bin true opAdd (subs true opIx (eVar 2) (eVar 5)) (eLst (aCons (eVar 4) aNil)) ρ5 = some (.val (.lst ((natD (MN[c] ++ [xs[b]])).map T.fr)), ρ5) := by
      have h := opAdd_lst (ds := natD MN[c]) (es := natD [xs[b]]) (by rw [natD_len, natD_len, sizeLine_eq]; simp; omega)
      have e : natD MN[c] ++ natD [xs[b]] = natD (MN[c] ++ [xs[b]]) := by unfold natD; rw [List.map_append]
      rw [e] at h
      exact bin_eq j1 (eLst_eq (ds := natD [xs[b]]) rfl (by simp [natD])) rfl j2 rfl h
    have hfz : fz (un opSorted (bin true opAdd (subs true opIx (eVar 2) (eVar 5)) (eLst (aCons (eVar 4) aNil)))) ρ5 = some (.list (natD zs), ρ5) := fz_lst (un_eq hadd rfl hzs)
    have t6 := put_own (qb := true) (ga := eVar 2) (gb := eVar 5) (ρ1 := ρ5) (ρ2 := ρ5) (ρ3 := ρ5) (i := 2) (k := c) (s := .own (.lst (MN.map oT))) (ts := MN.map oT) hfz rfl rfl rfl rfl rfl (by rw [List.length_map]; exact htc)
    let ρ6 := XS f3 LN (.own (.lst ((MN.map oT).set c (.fr (.list (natD zs)))))) (ow (.int (a : Nat))) (ow (.int (xs[b] : Nat))) (ow (.int (c : Nat))) .non
    have t6 : sPut true putAny (un opSorted (bin true opAdd (subs true opIx (eVar 2) (eVar 5)) (eLst (aCons (eVar 4) aNil)))) (eVar 2) (eVar 5) ρ5 = some (.nx, ρ6) := t6
    refine ⟨f3, .lst ((MN.map oT).set c (.fr (.list (natD zs)))), .list (LD (MN.set c zs)), hf3, ?_, ?_, runFn_bor (i := 2) (ρ := ρ6) ⟨rfl, rfl⟩ (sSeq_eq t2 (sSeq_eq t3 (sSeq_eq (ρ1 := ρ6) (sIf_eq c1 ?_) rfl))) rfl⟩
    · show (T.eraseAll ((MN.map oT).set c (.fr (.list (natD zs))))).map PyData.list = _
      rw [erase_set (erase_oT MN) (show (T.fr (.list (natD zs))).erase = some (.list (natD zs)) from rfl)]
      show some (PyData.list ((LD MN).set c (.list (natD zs)))) = _
      exact congrArg (fun x => some (PyData.list x)) (LD_set MN c zs).symm
    · refine papL _ (by rw [List.length_set]; omega) fun ys hy => ?_
      rcases List.mem_or_eq_of_mem_set hy with hy | rfl
      · obtain ⟨p, q⟩ := hMe ys hy
        exact ⟨by omega, q⟩
      · refine ⟨by rw [hzp.length_eq, List.length_append]; simp; omega, fun x hx => ?_⟩
        rcases List.mem_append.mp (hzp.mem_iff.mp hx) with hx | hx
        · exact hy2 x hx
        · have : x = xs[b] := by simpa using hx
          rw [this]
          exact ha2 _ (List.getElem_mem _)
    · rw [if_pos rfl]
      exact sSeq_eq t4 (sSeq_eq t5 t6)
  · rw [decide_eq_false (by omega)] at c1
    refine ⟨f1, .lst (LN.map oT), .list (LD LN), hf1, ?_, papL LN hl fun xs hx => ⟨by have := (he xs hx).1; omega, (he xs hx).2⟩, runFn_bor (i := 2) (ρ := ρ3) ⟨rfl, rfl⟩ (sSeq_eq t2 (sSeq_eq t3 (sSeq_eq (ρ1 := ρ3) (sIf_eq c1 rfl) rfl))) rfl⟩
    show (T.eraseAll (LN.map oT)).map PyData.list = _
    rw [erase_oT]; rfl
end K71

/-! the law's turn, its parts -/
namespace DL
open PySem PySem.Spec PyProof.Rows L2
/-- a made list whose items change the state -/
theorem lcLoop_el {vs : List Nat} {m : GM} {c : M Bool} {e : M R} (S : MS → Prop) (P : PyData → Prop) : ∀ (ds : List PyData) (ρ : MS), (∀ d ∈ ds, ∀ ρ, S ρ → ∃ ρ1 z ρ2, m d (wipeM vs ρ) = some ρ1 ∧ c ρ1 = some (true, ρ1) ∧ fz e ρ1 = some (z, ρ2) ∧ P z ∧ S ρ2) → S ρ →
    ∃ (zs : List PyData) (ρ' : MS), lcLoop vs m c e ds ρ = some (zs, ρ') ∧ zs.length = ds.length ∧ (∀ z ∈ zs, P z) ∧ S ρ'
  | [], ρ, _, hS => ⟨[], ρ, rfl, rfl, (fun z hz => nomatch hz), hS⟩
  | d :: ds, ρ, h, hS => by
    obtain ⟨ρ1, z, ρ2, h1, h2, h3, h4, h5⟩ := h d List.mem_cons_self ρ hS
    obtain ⟨zs, ρ', a1, a2, a3, a4⟩ := lcLoop_el S P ds ρ2 (fun x hx => h x (List.mem_cons_of_mem _ hx)) h5
    have e0 : lcLoop vs m c e (d :: ds) ρ = (m d (wipeM vs ρ)).bind fun ρ1 => (c ρ1).bind fun x => if x.1 then (fz e x.2).bind fun y => (lcLoop vs m c e ds y.2).map fun z => (y.1 :: z.1, z.2) else lcLoop vs m c e ds x.2 := rfl
    refine ⟨z :: zs, ρ', ?_, by rw [List.length_cons, List.length_cons, a2], fun x hx => ?_, a4⟩
    · rw [e0, h1, Option.bind_some, h2, Option.bind_some, if_pos rfl, h3, Option.bind_some, a1]
      rfl
    · rcases List.mem_cons.mp hx with rfl | hx
      · exact h4
      · exact a3 x hx
theorem lcM_el {src : Src} {vs : List Nat} {m : GM} {c : M Bool} {e : M R} {ρ ρ1 : MS} {ds : List PyData} (S : MS → Prop) (P : PyData → Prop) (hs : src ρ = some ((ds, none), ρ1)) (hl : ds.length ≤ 1000) (h0 : S ρ1)
    (h : ∀ d ∈ ds, ∀ ρ, S ρ → ∃ ρ1 z ρ2, m d (wipeM vs ρ) = some ρ1 ∧ c ρ1 = some (true, ρ1) ∧ fz e ρ1 = some (z, ρ2) ∧ P z ∧ S ρ2) (hp : (vs.all fun v => plainSl ρ1[v]?) = true) :
    ∃ (zs : List PyData) (ρ' : MS), lcM src vs m c e ρ = some (.val (.lst (zs.map T.fr)), giveBack vs ρ1 (wipeM vs ρ')) ∧ zs.length = ds.length ∧ (∀ z ∈ zs, P z) ∧ S ρ' := by
  obtain ⟨zs, ρ', a, b, d, g⟩ := lcLoop_el S P ds ρ1 h h0
  refine ⟨zs, ρ', ?_, b, d, g⟩
  have e0 : lcM src vs m c e ρ = (src ρ).bind fun x => if ((vs.all fun v => plainSl (hideM x.1.2 x.2)[v]?) && lineOk x.1.1) = true then
    (lcLoop vs m c e x.1.1 (hideM x.1.2 x.2)).bind fun z => (unhide x.1.2 x.2 (giveBack vs (hideM x.1.2 x.2) (wipeM vs z.2))).map fun ρ3 => (R.val (.lst (z.1.map T.fr)), ρ3) else none := rfl
  rw [e0, hs, Option.bind_some]
  show (if ((vs.all fun v => plainSl ρ1[v]?) && lineOk ds) = true then (lcLoop vs m c e ds ρ1).bind fun z => some (R.val (.lst (z.1.map T.fr)), giveBack vs ρ1 (wipeM vs z.2)) else none) = _
  rw [hp, show lineOk ds = true from decide_eq_true (by rw [sizeLine_eq]; omega), if_pos (show (true && true) = true from rfl), a]
  rfl
theorem add_ff {ds es : List PyData} (h : ds.length + es.length ≤ 1000) : opAdd (.fr (.list ds)) (.fr (.list es)) = some (.lst ((ds ++ es).map T.fr)) := by
  have e0 : opAdd (.fr (.list ds)) (.fr (.list es)) = match T.asLst (.fr (.list ds)), T.asLst (.fr (.list es)) with
    | some ds, some es => if cat2 ds es then some (.lst ((ds ++ es).map T.fr)) else none
    | _, _ => match T.asTup (.fr (.list ds)), T.asTup (.fr (.list es)) with
      | some ds, some es => if !ds.isEmpty && !es.isEmpty && cat2 ds es then some (.fr (.tuple (ds ++ es))) else none
      | _, _ => none := rfl
  rw [e0]
  show (if cat2 ds es = true then _ else _) = _
  rw [if_pos (show cat2 ds es = true from decide_eq_true (by rw [sizeLine_eq]; omega))]
end DL
namespace K71
open PySem PySem.Spec PyProof.Rows L2 DL
variable {f f' : Feed} {rs : List Row} {c0 : PyData} {s3 s4 s5 s6 s7 s8 s9 s10 s11 s12 s13 s14 s15 : Sl}
def RS (f : Feed) (c0 : PyData) (rs : List Row) (s3 s4 s5 s6 s7 s8 s9 s10 s11 s12 s13 s14 s15 : Sl) : MS := [.pin f.tree, ow c0, ow (rowsD rs), s3, s4, s5, s6, s7, s8, s9, s10, s11, s12, s13, s14, s15]
theorem len_r : un opLen (eVar 2) (RS f c0 rs s3 s4 s5 s6 s7 s8 s9 s10 s11 s12 s13 s14 s15) = some (.val (.fr (.int (rs.length : Nat))), RS f c0 rs s3 s4 s5 s6 s7 s8 s9 s10 s11 s12 s13 s14 s15) := by
  have := len_list (ds := rs.map Row.enc) (ρ := RS f c0 rs s3 s4 s5 s6 s7 s8 s9 s10 s11 s12 s13 s14 s15) (i := 2) rfl
  rw [List.length_map] at this
  exact this
theorem src_r (hn : rs.length ≤ 60) : srcR rng1 (aCons (un opLen (eVar 2)) aNil) (RS f c0 rs s3 s4 s5 s6 s7 s8 s9 s10 s11 s12 s13 s14 s15) = some ((natD (List.range rs.length), none), RS f c0 rs s3 s4 s5 s6 s7 s8 s9 s10 s11 s12 s13 s14 s15) :=
  srcR_eq (ds := [.int (rs.length : Nat)]) (aCons_eq len_r rfl rfl) (rng1_nat (by omega))
theorem draw_r (hf : f.ok) (many : Nat) (h0 : 0 < many) (hb : many < 1000000) {q : Bool} {gs : DL.M (List PyData)} (hgs : gs (RS f c0 rs s3 s4 s5 s6 s7 s8 s9 s10 s11 s12 s13 s14 s15) = some ([.int (many : Nat)], RS f c0 rs s3 s4 s5 s6 s7 s8 s9 s10 s11 s12 s13 s14 s15)) :
    ∃ (f' : Feed) (told : Nat), f'.ok ∧ told < many ∧ eFnL f__law_draw (lHere q (eVar 0) gs) (RS f c0 rs s3 s4 s5 s6 s7 s8 s9 s10 s11 s12 s13 s14 s15) = some (.val (.fr (.int (told : Nat))), RS f' c0 rs s3 s4 s5 s6 s7 s8 s9 s10 s11 s12 s13 s14 s15) := by
  obtain ⟨f', told, a, b, c, d⟩ := draw_var hf (i := 0) (s := .pin f.tree) (q := q) (many := (many : Int)) rfl (.inr rfl) rfl hgs (by omega) (by omega)
  refine ⟨f', told.toNat, a, by omega, ?_⟩
  rw [show ((told.toNat : Nat) : Int) = told by omega]
  exact d
/-- the first steps -/
theorem first_r (G : Good rs) : lcM (srcR rng1 (aCons (bin true opAdd (un opMax (bin true opAdd (eVar 3) (eLst (aCons (un opNeg (eC (.int 1))) (aNil))))) (eC (.int 1))) (aNil))) [14] (gNm 14) (cYes) (lcM (srcR rng1 (aCons (un opLen (eVar 2)) (aNil))) [8] (gNm 8) (cOf (bin true opEq (subs true opIx (eVar 3) (eVar 8)) (eVar 14))) (eVar 8))
    (RS f c0 rs (owl (levs (RR rs) rs.length)) .non .non .non .non .non .non .non .non .non .non .non .non) = some (.val (.lst ((LD (stepN (RR rs) rs.length)).map T.fr)), RS f c0 rs (owl (levs (RR rs) rs.length)) .non .non .non .non .non .non .non .non .non .non .non .non) := by
  let R := RR rs
  let n := rs.length
  have hn : n ≤ 60 := G.1
  have hD : deep R n ≤ 60 := Nat.le_trans (deep_le R n) hn
  let Z : Sl → Sl → MS := fun s8 s14 => RS f c0 rs (owl (levs R n)) .non .non .non .non s8 .non .non .non .non .non s14 .non
  let ρ := Z .non .non
  obtain ⟨m, hm1, hm2⟩ := deep_levs2 R n
  have hadd : bin true opAdd (eVar 3) (eLst (aCons (un opNeg (eC (.int 1))) aNil)) ρ = some (.val (.lst ((natD (levs R n) ++ [PyData.int (-1)]).map T.fr)), ρ) :=
    bin_eq (x := .bor 3 []) (t := .lst ((natD (levs R n)).map T.fr)) (u := .lst ([PyData.int (-1)].map T.fr)) rfl rfl rfl rfl rfl (opAdd_lst (by rw [natD_len, levs_len, sizeLine_eq]; simp; omega))
  have hsrc : srcR rng1 (aCons (bin true opAdd (un opMax (bin true opAdd (eVar 3) (eLst (aCons (un opNeg (eC (.int 1))) (aNil))))) (eC (.int 1))) (aNil)) ρ = some ((natD (List.range (deep R n)), none), ρ) :=
    srcR_eq (ds := [.int (deep R n : Nat)]) (aCons_eq (bin_eq (un_eq hadd rfl hm1) rfl rfl rfl rfl hm2) rfl rfl) (rng1_nat (by omega))
  have h := lcM_nat (vs := [14]) (m := gNm 14) (c := cYes) (e := lcM (srcR rng1 (aCons (un opLen (eVar 2)) (aNil))) [8] (gNm 8) (cOf (bin true opEq (subs true opIx (eVar 3) (eVar 8)) (eVar 14))) (eVar 8)) (ρ3 := ρ) (List.range (deep R n)) (fun _ => true) (fun l => .list (natD ((List.range n).filter fun i => lev R i == l))) hsrc (by rw [List.length_range]; exact small_le (by omega)) (fun l hl => by
    let ρa := Z .non (ow (.int (l : Nat)))
    refine ⟨ρa, rfl, rfl, fun _ => ?_, rfl⟩
    have hlc := lcM_nat (vs := [8]) (m := gNm 8) (c := cOf (bin true opEq (subs true opIx (eVar 3) (eVar 8)) (eVar 14))) (e := eVar 8) (ρ3 := ρa) (List.range n) (fun i => lev R i == l) (fun i => .int (i : Nat)) (src_r (f := f) (c0 := c0) (s3 := owl (levs R n)) (s4 := .non) (s5 := .non) (s6 := .non) (s7 := .non) (s8 := .non) (s9 := .non) (s10 := .non) (s11 := .non) (s12 := .non) (s13 := .non) (s14 := ow (.int (l : Nat))) (s15 := .non) hn) (by rw [List.length_range]; exact small60 hn) (fun i hi => by
      have hi := List.mem_range.mp hi
      let ρb := Z (ow (.int (i : Nat))) (ow (.int (l : Nat)))
      refine ⟨ρb, rfl, ?_, fun _ => rfl, rfl⟩
      have hk2 : i < (natD (levs R n)).length := by rw [natD_len, levs_len]; exact hi
      have b1 := subs_own (q := true) (f := opIx) (ga := eVar 3) (gb := eVar 8) (ρ := ρb) (i := 3) rfl rfl rfl rfl hk2
      rw [natD_get hk2, levs_get] at b1
      refine cOf_eq (bin_eq b1 rfl rfl rfl rfl (eq_int _ _)) ?_
      have hde : decide (((lev R i : Nat) : Int) = ((l : Nat) : Int)) = (lev R i == l) := by
        by_cases e : lev R i = l
        · simp [e]
        · have : ¬ ((lev R i : Nat) : Int) = (l : Int) := by omega
          simp [e, this]
      show some (T.fr (.bool (decide (((lev R i : Nat) : Int) = ((l : Nat) : Int))))) = _
      rw [hde]) rfl rfl
    exact fz_lst hlc) rfl rfl
  rw [List.filter_eq_self.mpr fun _ _ => rfl] at h
  have e : (List.range (deep R n)).map (fun l => PyData.list (natD ((List.range n).filter fun i => lev R i == l))) = LD (stepN R n) := by
    unfold LD stepN
    rw [List.map_map]; rfl
  rw [e] at h
  exact h
theorem single_r (hn : rs.length ≤ 60) : lcM (srcR rng1 (aCons (un opLen (eVar 2)) (aNil))) [8] (gNm 8) (cYes) (eLst (aCons (eVar 8) (aNil))) (RS f c0 rs s3 s4 s5 s6 s7 .non s9 s10 s11 s12 s13 s14 s15)
    = some (.val (.lst ((LD ((List.range rs.length).map fun k => [k])).map T.fr)), RS f c0 rs s3 s4 s5 s6 s7 .non s9 s10 s11 s12 s13 s14 s15) := by
  have h := lcM_nat (vs := [8]) (m := gNm 8) (c := cYes) (e := eLst (aCons (eVar 8) (aNil))) (ρ3 := RS f c0 rs s3 s4 s5 s6 s7 .non s9 s10 s11 s12 s13 s14 s15) (List.range rs.length) (fun _ => true) (fun k => .list (natD [k])) (src_r (f := f) (c0 := c0) (s3 := s3) (s4 := s4) (s5 := s5) (s6 := s6) (s7 := s7) (s8 := .non) (s9 := s9) (s10 := s10) (s11 := s11) (s12 := s12) (s13 := s13) (s14 := s14) (s15 := s15) hn) (by rw [List.length_range]; exact small60 hn) (fun k hk => ⟨RS f c0 rs s3 s4 s5 s6 s7 (ow (.int (k : Nat))) s9 s10 s11 s12 s13 s14 s15, rfl, rfl, fun _ => fz_lst (eLst_eq (ds := natD [k]) rfl (by simp [natD])), rfl⟩) rfl rfl
  rw [List.filter_eq_self.mpr fun _ _ => rfl] at h
  have e : (List.range rs.length).map (fun k => PyData.list (natD [k])) = LD ((List.range rs.length).map fun k => [k]) := by
    unfold LD
    rw [List.map_map]; rfl
  rw [e] at h
  exact h
theorem rows_r (hn : rs.length ≤ 60) : fz (lcM (srcR rng1 (aCons (un opLen (eVar 2)) (aNil))) [15] (gNm 15) (cYes) (eVar 15)) (RS f c0 rs s3 s4 s5 s6 s7 s8 s9 s10 s11 s12 s13 s14 .non) = some (.list (natD (List.range rs.length)), RS f c0 rs s3 s4 s5 s6 s7 s8 s9 s10 s11 s12 s13 s14 .non) := by
  have h := lcM_nat (vs := [15]) (m := gNm 15) (c := cYes) (e := eVar 15) (ρ3 := RS f c0 rs s3 s4 s5 s6 s7 s8 s9 s10 s11 s12 s13 s14 .non) (List.range rs.length) (fun _ => true) (fun k => .int (k : Nat)) (src_r (f := f) (c0 := c0) (s3 := s3) (s4 := s4) (s5 := s5) (s6 := s6) (s7 := s7) (s8 := s8) (s9 := s9) (s10 := s10) (s11 := s11) (s12 := s12) (s13 := s13) (s14 := s14) (s15 := .non) hn) (by rw [List.length_range]; exact small60 hn) (fun k hk => ⟨RS f c0 rs s3 s4 s5 s6 s7 s8 s9 s10 s11 s12 s13 s14 (ow (.int (k : Nat))), rfl, rfl, fun _ => rfl, rfl⟩) rfl rfl
  rw [List.filter_eq_self.mpr fun _ _ => rfl] at h
  exact fz_lst h
theorem pap_nat {xs : List Nat} (h : xs.length ≤ 30) (h2 : ∀ x ∈ xs, x ≤ 1000) : Pap 1 (.list (natD xs)) := by
  refine .lst (by rw [natD_len]; exact h) fun d hd => ?_
  obtain ⟨x, hx, rfl⟩ := List.mem_map.mp hd
  have := h2 x hx
  exact .int (by omega) (by omega)
theorem val_LD {LN : List (List Nat)} (h1 : LN.length ≤ 14) (h2 : ∀ xs ∈ LN, xs.length ≤ 30 ∧ ∀ x ∈ xs, x ≤ 1000) : Val (LD LN) := ⟨by rw [LD_len]; exact h1, fun d hd => by
  obtain ⟨xs, hx, rfl⟩ := List.mem_map.mp hd
  exact pap_nat (h2 xs hx).1 (h2 xs hx).2⟩
theorem val_nat {xs : List Nat} (h : xs.length ≤ 14) (h2 : ∀ x ∈ xs, x ≤ 1000) : Val (natD xs) := ⟨by rw [natD_len]; exact h, fun d hd => by
  obtain ⟨x, hx, rfl⟩ := List.mem_map.mp hd
  have := h2 x hx
  exact .int (by omega) (by omega)⟩
/-- the bending of what a slot holds -/
theorem bent_call (hf : f.ok) (hn : rs.length ≤ 60) {j : Nat} {vs : List PyData} (V : Val vs) {s : Sl} (hs : DS s vs) {ρ : MS} (h0 : ρ[0]? = some (.pin f.tree)) (h2 : un opLen (eVar 2) ρ = some (.val (.fr (.int (rs.length : Nat))), ρ)) (hj : ρ[j]? = some s) (hne : j ≠ 0) :
    ∃ (f' : Feed) (ps : List PyData), f'.ok ∧ ps.length ≤ 30 ∧ (∀ p ∈ ps, Pap 3 p) ∧ eFnL f__law_bent (lHere true (eVar 0) (aCons (un opLen (eVar 2)) (aCons (eVar j) (aNil)))) ρ = some (.val (.lst (ps.map T.fr)), (ρ.set j (ow (.list vs))).set 0 (.pin f'.tree)) := by
  obtain ⟨f', ps, a, b, c, d⟩ := bent_ok V hf hn
  refine ⟨f', ps, a, b, c, ?_⟩
  have hv : eVar 0 ρ = some (.bor 0 [], ρ) := by
    show (ρ[0]?.bind Sl.tree?).map _ = _
    rw [h0]; rfl
  have ha : aCons (un opLen (eVar 2)) (aCons (eVar j) aNil) ρ = some ([.int (rs.length : Nat), .list vs], ρ.set j (ow (.list vs))) := aCons_fz (fz_eq h2 rfl) (aCons_fz (hs.frz hj) rfl)
  have h0' : (ρ.set j (ow (.list vs)))[0]? = some (.pin f.tree) := by rw [List.getElem?_set_ne hne]; exact h0
  exact eFnL_lent (as := []) (i := 0) (p := []) (s := .pin f.tree) (t0 := f.tree) (t := f.tree) (t' := f'.tree) (lHere_gen hv ha waits0) h0' rfl rfl d rfl
end K71

namespace K71
open PySem PySem.Spec PyProof.Rows L2 DL
variable {f f' : Feed} {rs : List Row} {c0 : PyData} {LN : List (List Nat)} {s3 s4 s5 s6 s7 s8 s9 s10 s11 s12 s13 s14 s15 : Sl}
def pps (ps : List PyData) : Sl := .own (.lst (ps.map T.fr))
/-- lists that may be bent -/
structure Lists (LN : List (List Nat)) : Prop where
  len : LN.length ≤ 14
  each : ∀ xs ∈ LN, xs.length ≤ 14 ∧ ∀ x ∈ xs, x ≤ 1000
theorem Lists.val (h : Lists LN) : Val (LD LN) := val_LD h.len fun xs hx => ⟨by have := (h.each xs hx).1; omega, (h.each xs hx).2⟩
def frL (LN : List (List Nat)) : Sl := ow (.list (LD LN))
theorem len_f : un opLen (eVar 4) (RS f c0 rs s3 (frL LN) s5 s6 s7 s8 s9 s10 s11 s12 s13 s14 s15) = some (.val (.fr (.int (LN.length : Nat))), RS f c0 rs s3 (frL LN) s5 s6 s7 s8 s9 s10 s11 s12 s13 s14 s15) := by
  have := len_list (ds := LD LN) (ρ := RS f c0 rs s3 (frL LN) s5 s6 s7 s8 s9 s10 s11 s12 s13 s14 s15) (i := 4) rfl
  rw [LD_len] at this
  exact this
def mBig : DL.M Fl := (sSeq (sSet 10 (bin false opAdd (eC (.int 1)) (eFnL f__law_draw (lHere true (eVar 0) (aCons (bin true opSub (un opLen (eVar 4)) (eC (.int 1))) (aNil))))))
  (sSeq (sExpr (mutM "list" true lAppend (eVar 6) (bConsF (bin true opAdd (bin true opAdd (sliceT opSl true (eVar 4) (oNone) (oSome (bin true opSub (eVar 10) (eC (.int 1))))) (eLst (aCons (un opSorted (bin true opAdd (subs true opIx (eVar 4) (bin true opSub (eVar 10) (eC (.int 1)))) (subs true opIx (eVar 4) (eVar 10)))) (aNil)))) (sliceT opSl true (eVar 4) (oSome (bin true opAdd (eVar 10) (eC (.int 1)))) (oNone))) (bNil))))
  (sSet 6 (bin false opAdd (eVar 6) (lcM (srcR rng1 (aCons (eC (.int 3)) (aNil))) [8] (gNm 8) (cYes) (eFnL f__law_moved_row (lHere true (eVar 0) (aCons (eVar 4) (aNil)))))))))
theorem big_ok (hf : f.ok) (hL : Lists LN) (h2 : 2 ≤ LN.length) {ps : List PyData} (hl : ps.length ≤ 100) (hp : ∀ p ∈ ps, Pap 3 p) : ∃ (f' : Feed) (ps' : List PyData) (s10' : Sl), f'.ok ∧ ps'.length = ps.length + 4 ∧ (∀ p ∈ ps', Pap 3 p) ∧
    mBig (RS f c0 rs s3 (frL LN) s5 (pps ps) s7 .non s9 .non s11 s12 s13 s14 s15) = some (.nx, RS f' c0 rs s3 (frL LN) s5 (pps ps') s7 .non s9 s10' s11 s12 s13 s14 s15) := by
  let ρ := RS f c0 rs s3 (frL LN) s5 (pps ps) s7 .non s9 .non s11 s12 s13 s14 s15
  have hll := hL.len
  have hgs : aCons (bin true opSub (un opLen (eVar 4)) (eC (.int 1))) aNil ρ = some ([.int ((LN.length - 1 : Nat) : Int)], ρ) := by
    have h : bin true opSub (un opLen (eVar 4)) (eC (.int 1)) ρ = some (.val (.fr (.int ((LN.length : Nat) - 1 : Int))), ρ) := bin_eq len_f rfl rfl rfl rfl rfl
    rw [show ((LN.length : Nat) : Int) - 1 = ((LN.length - 1 : Nat) : Int) by omega] at h
    exact aCons_eq h rfl rfl
  obtain ⟨f1, told, hf1, ht, hd⟩ := draw_r hf (LN.length - 1) (by omega) (by omega) (q := true) hgs
  let Z : Feed → List PyData → Sl → MS := fun f ps s8 => RS f c0 rs s3 (frL LN) s5 (pps ps) s7 s8 s9 (ow (.int ((told + 1 : Nat) : Int))) s11 s12 s13 s14 s15
  have t10 : sSet 10 (bin false opAdd (eC (.int 1)) (eFnL f__law_draw (lHere true (eVar 0) (aCons (bin true opSub (un opLen (eVar 4)) (eC (.int 1))) (aNil))))) ρ = some (.nx, Z f1 ps .non) := by
    have h : bin false opAdd (eC (.int 1)) (eFnL f__law_draw (lHere true (eVar 0) (aCons (bin true opSub (un opLen (eVar 4)) (eC (.int 1))) (aNil)))) ρ = some (.val (.fr (.int (1 + (told : Nat) : Int))), RS f1 c0 rs s3 (frL LN) s5 (pps ps) s7 .non s9 .non s11 s12 s13 s14 s15) := bin_eq (x := .val (.fr (.int 1))) rfl hd rfl rfl rfl rfl
    rw [show (1 : Int) + (told : Nat) = ((told + 1 : Nat) : Int) by omega] at h
    exact sSet_val (i := 10) (ρ1 := RS f1 c0 rs s3 (frL LN) s5 (pps ps) s7 .non s9 .non s11 s12 s13 s14 s15) h rfl
  let ρ1 := Z f1 ps .non
  have i1 : told < LN.length := by omega
  have i2 : told + 1 < LN.length := by omega
  have hm1 : bin true opSub (eVar 10) (eC (.int 1)) ρ1 = some (.val (.fr (.int (told : Nat))), ρ1) := by
    have h : bin true opSub (eVar 10) (eC (.int 1)) ρ1 = some (.val (.fr (.int (((told + 1 : Nat) : Int) - 1))), ρ1) := rfl
    rw [show ((told + 1 : Nat) : Int) - 1 = ((told : Nat) : Int) by omega] at h
    exact h
  have hp1 : bin true opAdd (eVar 10) (eC (.int 1)) ρ1 = some (.val (.fr (.int ((told + 2 : Nat) : Int))), ρ1) := by
    have h : bin true opAdd (eVar 10) (eC (.int 1)) ρ1 = some (.val (.fr (.int (((told + 1 : Nat) : Int) + 1))), ρ1) := rfl
    rw [show ((told + 1 : Nat) : Int) + 1 = ((told + 2 : Nat) : Int) by omega] at h
    exact h
  have x1 : subs true opIx (eVar 4) (bin true opSub (eVar 10) (eC (.int 1))) ρ1 = some (.val (.fr (.list (natD LN[told]))), ρ1) := by
    have h := opIx_list (ds := LD LN) (k := told) (by rw [LD_len]; exact i1)
    rw [LD_at i1] at h
    exact subs_val rfl hm1 rfl h
  have x2 : subs true opIx (eVar 4) (eVar 10) ρ1 = some (.val (.fr (.list (natD LN[told + 1]))), ρ1) := by
    have h := opIx_list (ds := LD LN) (k := told + 1) (by rw [LD_len]; exact i2)
    rw [LD_at i2] at h
    exact subs_val rfl (y := .val (.fr (.int ((told + 1 : Nat) : Int)))) rfl rfl h
  obtain ⟨e1, e2⟩ := hL.each _ (List.getElem_mem i1)
  obtain ⟨e3, e4⟩ := hL.each _ (List.getElem_mem i2)
  have hadd : bin true opAdd (subs true opIx (eVar 4) (bin true opSub (eVar 10) (eC (.int 1)))) (subs true opIx (eVar 4) (eVar 10)) ρ1 = some (.val (.lst ((natD (LN[told] ++ LN[told + 1])).map T.fr)), ρ1) := by
    have h := bin_eq (q := true) x1 x2 rfl rfl rfl (add_ff (by rw [natD_len, natD_len]; omega))
    have e : natD LN[told] ++ natD LN[told + 1] = natD (LN[told] ++ LN[told + 1]) := by unfold natD; rw [List.map_append]
    rw [e] at h
    exact h
  obtain ⟨zs, hzp, hzs⟩ := sorted_nat (LN[told] ++ LN[told + 1])
  have hzl : zs.length ≤ 30 := by rw [hzp.length_eq, List.length_append]; omega
  have hze : ∀ x ∈ zs, x ≤ 1000 := fun x hx => by
    rcases List.mem_append.mp (hzp.mem_iff.mp hx) with hx | hx
    · exact e2 x hx
    · exact e4 x hx
  have hso : fz (un opSorted (bin true opAdd (subs true opIx (eVar 4) (bin true opSub (eVar 10) (eC (.int 1)))) (subs true opIx (eVar 4) (eVar 10)))) ρ1 = some (.list (natD zs), ρ1) := fz_lst (un_eq hadd rfl hzs)
  obtain ⟨ds, hds, hz⟩ := bent_put hL.val (i := 4) (x := .list (natD zs)) (pap_nat hzl hze) (q := true) (ρ := ρ1) (a := told) (lo := some ((told + 2 : Nat) : Int)) (oh := oSome (bin true opSub (eVar 10) (eC (.int 1)))) (ol := oSome (bin true opAdd (eVar 10) (eC (.int 1)))) (gx := eLst (aCons (un opSorted (bin true opAdd (subs true opIx (eVar 4) (bin true opSub (eVar 10) (eC (.int 1)))) (subs true opIx (eVar 4) (eVar 10)))) aNil)) (hi := none) (xs := []) rfl (oSome_eq hm1 rfl) (oSome_eq hp1 rfl) ⟨told + 2, rfl, by omega⟩ (eLst_eq (ds := [.list (natD zs)]) (aCons_fz (gs := aNil) hso rfl) (by simp))
  have t11 := append_fz (q := true) (i := 6) (ps := ps) (ρ := ρ1) (ρ' := ρ1) rfl hz rfl (by omega)
  let ps1 := ps ++ [PyData.list ds]
  let ρ2 := Z f1 ps1 .non
  have hsrc : srcR rng1 (aCons (eC (.int 3)) aNil) ρ2 = some ((natD (List.range 3), none), ρ2) := srcR_eq (ds := [.int ((3 : Nat) : Int)]) rfl (rng1_nat (by omega))
  let S : MS → Prop := fun ρ => ∃ (f : Feed) (s8 : Sl), f.ok ∧ ρ = Z f ps1 s8
  obtain ⟨zs2, ρ', h1, h3, h4, f2, s8', hf2, rfl⟩ := lcM_el (vs := [8]) (m := gNm 8) (c := cYes) (e := eFnL f__law_moved_row (lHere true (eVar 0) (aCons (eVar 4) (aNil)))) S (Pap 3) hsrc (by rw [natD_len, List.length_range]; omega) ⟨f1, .non, hf1, rfl⟩ (fun d hd ρ hS => by
    obtain ⟨f, s8, hf, rfl⟩ := hS
    obtain ⟨f', t, z, a, b, c, e⟩ := moved_ok hf (by omega) hll hL.each
    let ρa := Z f ps1 (ow d)
    have hcall : eFnL f__law_moved_row (lHere true (eVar 0) (aCons (eVar 4) aNil)) ρa = some (.val t, Z f' ps1 (ow d)) :=
      eFnL_lent (as := []) (bs := [.list (LD LN)]) (i := 0) (p := []) (s := .pin f.tree) (t0 := f.tree) (t := f.tree) (t' := f'.tree) (lHere_gen (ρ1 := ρa) (ρ2 := ρa) rfl rfl waits0) rfl rfl rfl e rfl
    exact ⟨ρa, z, Z f' ps1 (ow d), rfl, rfl, fz_eq hcall (by show (t.erase).map _ = _; rw [b]; rfl), c.up, f', _, a, rfl⟩) rfl
  have hp2 : ps1.length ≤ 101 := by show (ps ++ [PyData.list ds]).length ≤ 101; rw [List.length_append]; simp; omega
  rw [natD_len, List.length_range] at h3
  have t12 : sSet 6 (bin false opAdd (eVar 6) (lcM (srcR rng1 (aCons (eC (.int 3)) (aNil))) [8] (gNm 8) (cYes) (eFnL f__law_moved_row (lHere true (eVar 0) (aCons (eVar 4) (aNil)))))) ρ2 = some (.nx, Z f2 (ps1 ++ zs2) .non) := by
    have hb : bin false opAdd (eVar 6) (lcM (srcR rng1 (aCons (eC (.int 3)) (aNil))) [8] (gNm 8) (cYes) (eFnL f__law_moved_row (lHere true (eVar 0) (aCons (eVar 4) (aNil))))) ρ2 = some (.val (.lst ((ps1 ++ zs2).map T.fr)), Z f2 ps1 .non) :=
      bin_eq (x := .bor 6 []) (t := .lst (ps1.map T.fr)) rfl h1 rfl rfl rfl (opAdd_lst (by rw [sizeLine_eq]; omega))
    exact sSet_val (i := 6) (ρ1 := Z f2 ps1 .non) hb rfl
  refine ⟨f2, ps1 ++ zs2, _, hf2, ?_, fun p hp' => ?_, sSeq_eq t10 (sSeq_eq t11 t12)⟩
  · show ((ps ++ [PyData.list ds]) ++ zs2).length = _
    rw [List.length_append, List.length_append, h3]; rfl
  · rcases List.mem_append.mp hp' with h | h
    · rcases List.mem_append.mp h with h | h
      · exact hp p h
      · have : p = .list ds := by simpa using h
        subst this
        exact hds
    · exact h4 p h
def mRev : DL.M Fl := sExpr (mutM "list" true lAppend (eVar 6) (bConsF (bin true opAdd (eLst (aCons (un opRev (subs true opIx (eVar 4) (eC (.int 0)))) (aNil))) (sliceT opSl true (eVar 4) (oSome (eC (.int 1))) (oNone))) (bNil)))
theorem rev_r (hL : Lists LN) (h1 : 1 ≤ LN.length) {ps : List PyData} (hl : ps.length ≤ 200) (hp : ∀ p ∈ ps, Pap 3 p) : ∃ ps' : List PyData, ps'.length = ps.length + 1 ∧ (∀ p ∈ ps', Pap 3 p) ∧
    mRev (RS f c0 rs s3 (frL LN) s5 (pps ps) s7 s8 s9 s10 s11 s12 s13 s14 s15) = some (.nx, RS f c0 rs s3 (frL LN) s5 (pps ps') s7 s8 s9 s10 s11 s12 s13 s14 s15) := by
  let ρ := RS f c0 rs s3 (frL LN) s5 (pps ps) s7 s8 s9 s10 s11 s12 s13 s14 s15
  have i0 : 0 < LN.length := h1
  have hll := hL.len
  obtain ⟨e1, e2⟩ := hL.each _ (List.getElem_mem i0)
  have x1 : subs true opIx (eVar 4) (eC (.int 0)) ρ = some (.val (.fr (.list (natD LN[0]))), ρ) := by
    have h := opIx_list (ds := LD LN) (k := 0) (by rw [LD_len]; exact i0)
    rw [LD_at i0] at h
    exact subs_val rfl (y := .val (.fr (.int 0))) rfl rfl h
  have hr : fz (un opRev (subs true opIx (eVar 4) (eC (.int 0)))) ρ = some (.list (natD LN[0]).reverse, ρ) := fz_lst (un_eq x1 rfl rfl)
  have g1 := eLst_eq (aCons_fz (gs := aNil) (ds := []) (ρ2 := ρ) hr rfl) (by simp)
  have g2 : sliceT opSl true (eVar 4) (oSome (eC (.int 1))) (oNone) ρ = some (.val (.lst ((DL.cutD (LD LN) (some 1) none).map T.fr)), ρ) := slice_fr rfl rfl rfl
  have hc := cut_len (LD LN) (some 1) none
  rw [LD_len] at hc
  have hz := fz_lst (add_lsts (q := true) g1 g2 (by simp; omega))
  have ha := append_fz (q := true) (i := 6) (ps := ps) (ρ := ρ) (ρ' := ρ) rfl hz rfl (by omega)
  refine ⟨_, ?_, fun p hp' => ?_, ha⟩
  · rw [List.length_append]; rfl
  · rcases List.mem_append.mp hp' with h | h
    · exact hp p h
    · have : p = .list ([PyData.list (natD LN[0]).reverse] ++ DL.cutD (LD LN) (some 1) none) := by simpa using h
      subst this
      refine (Pap.lst (by rw [List.length_append]; simp; omega) fun d hd => ?_).up
      rcases List.mem_append.mp hd with hd | hd
      · have : d = .list (natD LN[0]).reverse := by simpa using hd
        subst this
        have := pap_nat (xs := LN[0]) (by omega) e2
        refine .lst (by rw [List.length_reverse, natD_len]; omega) fun d hd => this.list.2 d (List.mem_reverse.mp hd)
      · exact hL.val.each d (cut_mem hd)
end K71

namespace K71
open PySem PySem.Spec PyProof.Rows L2 DL
variable {f f' : Feed} {rs : List Row} {c0 : PyData} {LN : List (List Nat)} {s3 s4 s5 s6 s7 s8 s9 s10 s11 s12 s13 s14 s15 : Sl}
structure Ch (rs : List Row) (k : Nat) (cs : List Nat) : Prop where
  lt : ∀ x ∈ cs, x < k
  up : cs.Pairwise (· < ·)
  adj : ∀ i, (h : i + 1 < cs.length) → RR rs (cs[i]'(by omega)) (cs[i + 1]'h) = true
  len : cs.length ≤ k
theorem Ch.more {k : Nat} {cs : List Nat} (h : Ch rs k cs) : Ch rs (k + 1) cs := ⟨fun x hx => by have := h.lt x hx; omega, h.up, h.adj, by have := h.len; omega⟩
theorem Ch.snoc {k : Nat} {cs : List Nat} (h : Ch rs k cs) (hr : ∀ hl : 0 < cs.length, RR rs (cs[cs.length - 1]'(by omega)) k = true) : Ch rs (k + 1) (cs ++ [k]) := by
  refine ⟨fun x hx => ?_, ?_, fun i hi => ?_, by rw [List.length_append]; have := h.len; simp; omega⟩
  · rcases List.mem_append.mp hx with hx | hx
    · have := h.lt x hx; omega
    · have : x = k := by simpa using hx
      omega
  · refine List.pairwise_append.mpr ⟨h.up, List.pairwise_singleton _ _, fun x hx y hy => ?_⟩
    have : y = k := by simpa using hy
    have := h.lt x hx
    omega
  · rw [List.length_append] at hi
    simp at hi
    by_cases e : i + 1 < cs.length
    · rw [List.getElem_append_left (by omega), List.getElem_append_left e]
      exact h.adj i e
    · have hi2 : i + 1 = cs.length := by omega
      have hi3 : i = cs.length - 1 := by omega
      rw [List.getElem_append_left (by omega), List.getElem_append_right (by omega)]
      have := hr (by omega)
      simp only [hi2, Nat.sub_self, List.getElem_cons_zero]
      simp only [← hi3] at this
      exact this
theorem Ch.chain {cs : List Nat} (h : Ch rs rs.length cs) : chainB rs (.list (natD cs)) = true := by
  let ns : List Int := cs.map fun (k : Nat) => (k : Int)
  have e : natD cs = ns.map PyData.int := natD_int cs
  have hg : ∀ i, (hi : i < cs.length) → ns.getD i 0 = (cs[i] : Nat) := fun i hi => by
    rw [List.getD_eq_getElem?_getD, List.getElem?_eq_getElem (by show i < (cs.map _).length; rw [List.length_map]; exact hi)]
    show (cs.map fun (k : Nat) => (k : Int))[i]'(by rw [List.length_map]; exact hi) = _
    rw [List.getElem_map]
  have hnl : ns.length = cs.length := List.length_map _
  unfold chainB rowsB
  rw [e, intsOf_map, bt_of fun z hz => by
    obtain ⟨k, hk, rfl⟩ := List.mem_map.mp hz
    have := h.lt k hk
    omega, Bool.true_and, Bool.and_eq_true]
  constructor
  · refine List.all_eq_true.mpr fun k hk => ?_
    have hk : k ∈ shl ns.length := hk
    obtain ⟨k1, k2⟩ := mem_shl hk
    rw [hnl] at k2
    rw [hg k k2, hg (k - 1) (by omega)]
    have := List.pairwise_iff_getElem.mp h.up (k - 1) k (by omega) k2 (by omega)
    exact decide_eq_true (by omega)
  · refine List.all_eq_true.mpr fun k hk => ?_
    have hk : k ∈ shl ns.length := hk
    obtain ⟨k1, k2⟩ := mem_shl hk
    rw [hnl] at k2
    rw [hg k k2, hg (k - 1) (by omega)]
    have := h.adj (k - 1) (by omega)
    have e2 : k - 1 + 1 = k := by omega
    simp only [e2] at this
    exact this
def mChain : DL.M Fl := (sFor (srcR rng1 (aCons (un opLen (eVar 2)) (aNil))) (gNm 8) (sIf (cAnd (cOr (cOf (bin true opEq (un opLen (eVar 7)) (eC (.int 0)))) (cTru (eFn f__law_hang (aCons (subs true opIx (eVar 2) (subs true opIx (eVar 7) (un opNeg (eC (.int 1))))) (aCons (subs true opIx (eVar 2) (eVar 8)) (aNil)))))) (cOf (bin true opGt (eFnL f__law_draw (lHere true (eVar 0) (aCons (eC (.int 4)) (aNil)))) (eC (.int 0))))) (sExpr (mutM "list" true lAppend (eVar 7) (bConsF (eVar 8) (bNil)))) (sNx)))
theorem chain_r (G : Good rs) (hf : f.ok) : ∃ (f' : Feed) (cs : List Nat) (s8' : Sl), f'.ok ∧ Ch rs rs.length cs ∧ Fre s8' ∧
    mChain (RS f c0 rs s3 s4 s5 s6 (owl []) .non s9 s10 s11 s12 s13 s14 s15) = some (.nx, RS f' c0 rs s3 s4 s5 s6 (owl cs) s8' s9 s10 s11 s12 s13 s14 s15) := by
  have hn : rs.length ≤ 60 := G.1
  let S : Nat → MS → Prop := fun k ρ => ∃ (f : Feed) (cs : List Nat) (s8 : Sl), f.ok ∧ Ch rs k cs ∧ Fre s8 ∧ ρ = RS f c0 rs s3 s4 s5 s6 (owl cs) s8 s9 s10 s11 s12 s13 s14 s15
  obtain ⟨ρ', ρ3, ⟨f', cs, s8', a, b, c, e⟩, hu, hfin⟩ := sFor_inv (m := gNm 8) (n := sIf (cAnd (cOr (cOf (bin true opEq (un opLen (eVar 7)) (eC (.int 0)))) (cTru (eFn f__law_hang (aCons (subs true opIx (eVar 2) (subs true opIx (eVar 7) (un opNeg (eC (.int 1))))) (aCons (subs true opIx (eVar 2) (eVar 8)) (aNil)))))) (cOf (bin true opGt (eFnL f__law_draw (lHere true (eVar 0) (aCons (eC (.int 4)) (aNil)))) (eC (.int 0))))) (sExpr (mutM "list" true lAppend (eVar 7) (bConsF (eVar 8) (bNil)))) (sNx))
    (src_r (f := f) (c0 := c0) (s3 := s3) (s4 := s4) (s5 := s5) (s6 := s6) (s7 := owl []) (s8 := .non) (s9 := s9) (s10 := s10) (s11 := s11) (s12 := s12) (s13 := s13) (s14 := s14) (s15 := s15) hn) S ⟨f, [], .non, hf, ⟨fun x hx => (nomatch hx), .nil, fun i hi => by simp at hi, Nat.le_refl _⟩, .inl rfl, rfl⟩ (fun k ρ hk hS => by
      obtain ⟨f, cs, s8, hf, hc, h8, rfl⟩ := hS
      have hk' : k < rs.length := by rw [natD_len, List.length_range] at hk; exact hk
      have hcl := hc.len
      let ρa := RS f c0 rs s3 s4 s5 s6 (owl cs) (ow (.int (k : Nat))) s9 s10 s11 s12 s13 s14 s15
      have t0 : gNm 8 (natD (List.range rs.length))[k] (RS f c0 rs s3 s4 s5 s6 (owl cs) s8 s9 s10 s11 s12 s13 s14 s15) = some ρa := by
        rw [natD_get hk, List.getElem_range]
        rcases h8 with rfl | ⟨d, rfl⟩ <;> rfl
      have hl7 : un opLen (eVar 7) ρa = some (.val (.fr (.int (cs.length : Nat))), ρa) := by
        refine un_eq (x := .bor 7 []) (t := .lst ((natD cs).map T.fr)) rfl rfl ?_
        show some (T.fr (.int ((((natD cs).map T.fr).length : Nat) : Int))) = _
        rw [List.length_map, natD_len]
      have q1 : cOf (bin true opEq (un opLen (eVar 7)) (eC (.int 0))) ρa = some (decide (((cs.length : Nat) : Int) = 0), ρa) := cOf_eq (bin_eq hl7 rfl rfl rfl rfl (eq_int _ _)) rfl
      -- does the row hang together with the last one
      have q2 : ∃ b, (b = true → ∀ hl : 0 < cs.length, RR rs (cs[cs.length - 1]'(by omega)) k = true) ∧ cOr (cOf (bin true opEq (un opLen (eVar 7)) (eC (.int 0)))) (cTru (eFn f__law_hang (aCons (subs true opIx (eVar 2) (subs true opIx (eVar 7) (un opNeg (eC (.int 1))))) (aCons (subs true opIx (eVar 2) (eVar 8)) (aNil))))) ρa = some (b, ρa) := by
        by_cases h0 : cs.length = 0
        · rw [decide_eq_true (show ((cs.length : Nat) : Int) = 0 by omega)] at q1
          exact ⟨true, fun _ hl => by omega, cOr_eq q1 rfl⟩
        · rw [decide_eq_false (show ¬ ((cs.length : Nat) : Int) = 0 by omega)] at q1
          have hx : cs.length - 1 < (natD cs).length := by rw [natD_len]; omega
          have b1 := subs_own' (q := true) (f := opIx) (ga := eVar 7) (gb := un opNeg (eC (.int 1))) (ρ := ρa) (i := 7) (z := -1) (y := .val (.fr (.int (-1)))) (ds := natD cs) rfl rfl rfl rfl (by rw [ixN_last (by rw [natD_len]; omega), natD_len]) hx
          rw [natD_get hx] at b1
          have hlt : cs[cs.length - 1]'(by omega) < rs.length := by have := hc.lt _ (List.getElem_mem (show cs.length - 1 < cs.length by omega)); omega
          have a1 : aCons (subs true opIx (eVar 2) (subs true opIx (eVar 7) (un opNeg (eC (.int 1))))) (aCons (subs true opIx (eVar 2) (eVar 8)) aNil) ρa = some ([(rs[cs[cs.length - 1]'(by omega)]'hlt).enc, (rs[k]'hk').enc], ρa) :=
            aCons_eq (subs_val rfl b1 rfl (rows_at hlt)) rfl (aCons_eq (subs_val rfl (y := .val (.fr (.int (k : Nat)))) rfl rfl (rows_at hk')) rfl rfl)
          refine ⟨RR rs (cs[cs.length - 1]'(by omega)) k, fun h _ => h, cOr_eq q1 ?_⟩
          rw [if_neg Bool.false_ne_true]
          exact cTru_eq (eFn_eq a1 (hang2_at G hlt hk')) rfl rfl
      obtain ⟨b, hb, q2⟩ := q2
      cases b with
      | false =>
        exact ⟨ρa, ρa, t0, .inl (sIf_eq (cAnd_eq q2 rfl) rfl), f, cs, _, hf, hc.more, .inr ⟨_, rfl⟩, rfl⟩
      | true =>
        obtain ⟨f2, told, hf2, ht, hd⟩ := draw_r (c0 := c0) (rs := rs) (s3 := s3) (s4 := s4) (s5 := s5) (s6 := s6) (s7 := owl cs) (s8 := ow (.int (k : Nat))) (s9 := s9) (s10 := s10) (s11 := s11) (s12 := s12) (s13 := s13) (s14 := s14) (s15 := s15) hf 4 (by omega) (by omega) (q := true) (gs := aCons (eC (.int 4)) aNil) rfl
        let ρb := RS f2 c0 rs s3 s4 s5 s6 (owl cs) (ow (.int (k : Nat))) s9 s10 s11 s12 s13 s14 s15
        have q3 := cOf_eq (bin_eq (q := true) (gb := eC (.int 0)) hd rfl rfl rfl rfl (DL.gt_int _ _)) rfl
        cases hw : decide ((0 : Int) < ((told : Nat) : Int)) with
        | false =>
          rw [hw] at q3
          exact ⟨ρa, ρb, t0, .inl (sIf_eq (cAnd_eq q2 q3) rfl), f2, cs, _, hf2, hc.more, .inr ⟨_, rfl⟩, rfl⟩
        | true =>
          rw [hw] at q3
          have hap := append_fz (q := true) (e := eVar 8) (i := 7) (ps := natD cs) (d := .int (k : Nat)) (ρ := ρb) (ρ' := ρb) rfl rfl rfl (by rw [natD_len]; omega)
          have e4 : natD cs ++ [PyData.int (k : Nat)] = natD (cs ++ [k]) := by unfold natD; rw [List.map_append]; rfl
          rw [e4] at hap
          exact ⟨ρa, _, t0, .inl (sIf_eq (cAnd_eq q2 q3) hap), f2, cs ++ [k], _, hf2, hc.snoc (hb rfl), .inr ⟨_, rfl⟩, rfl⟩) (fun ρ' _ => ⟨ρ', rfl⟩)
  subst e
  have hu := Option.some.inj hu
  subst hu
  rw [natD_len, List.length_range] at b
  exact ⟨f', cs, s8', a, b, c, hfin⟩
end K71

set_option maxHeartbeats 400000
namespace K71
open PySem PySem.Spec PyProof.Rows L2 DL
theorem same_bools (a b : Bool) : f__law_same [.pin (.lst [.fr (.bool a), .fr (.bool b)]), ow (.list [.bool a, .bool b])] = some (.fr (.bool true), [.pin (.lst [.fr (.bool a), .fr (.bool b)]), .non]) := by
  cases a <;> cases b <;> rfl
end K71

namespace K71
open PySem PySem.Spec PyProof.Rows L2 DL
variable {f f' : Feed} {rs : List Row} {ins : Int} {os sh : List PyData} {LN : List (List Nat)} {s3 s4 s5 s6 s7 s8 s9 s10 s11 s12 s13 s14 s15 : Sl}
theorem ne_str (x : Str) : opNe (.fr (.str x)) (.fr (.str x)) = some (.fr (.bool false)) := by
  show (eqD (.str x) (.str x)).map (fun b => T.fr (.bool (!b))) = _
  have : eqD (.str x) (.str x) = some (PyData.eqv (.str x) (.str x)) := rfl
  rw [this, show PyData.eqv (.str x) (.str x) = true by simp [PyData.eqv]]
  rfl
def mPaper : DL.M Fl := (sSeq (sSet 11 (eFn f__law_copy (aCons (eVar 1) (aNil))))
  (sSeq (sSet 12 (un opRepr (eVar 9)))
  (sSeq (sSet 13 (eLst (aCons (eFnL f_shows_steps (lNext (eVar 11) (lHere true (eVar 9) (aNil)))) (aCons (eFnL f_shows_chain (lNext (eVar 11) (lHere true (eVar 9) (aNil)))) (aNil)))))
  (sSeq (sIf (cNot (cTru (eFnL f__law_same (lHere true (eVar 13) (aCons (eLst (aCons (eFn f__law_are_steps (aCons (eVar 2) (aCons (eVar 9) (aNil)))) (aCons (eFn f__law_is_chain (aCons (eVar 2) (aCons (eVar 9) (aNil)))) (aNil)))) (aNil)))))) (sRet (eC (.bool false))) (sNx))
  (sIf (cOr (cOf (bin true opNe (un opRepr (eVar 9)) (eVar 12))) (cOf (bin true opNe (eVar 11) (eVar 1)))) (sRet (eC (.bool false))) (sNx))))))
theorem Fr4.free {s : Sl} (h : Fr4 s) {ρ : MS} {i : Nat} (e : ρ[i]? = some s) : freeAt ρ i = true := by
  unfold freeAt
  rw [e]
  rcases h with rfl | ⟨t, rfl⟩ <;> rfl
theorem paper_ok (G : Good rs) (hsh : SeqAt.shaped (coreD ins rs (.list os) (.list sh)) = true) {p : PyData} (hp : Pap 3 p) (h11 : Fr4 s11) (h12 : Fr4 s12) (h13 : Fr4 s13) : ∃ s11' s12' s13', Fr4 s11' ∧ Fr4 s12' ∧ Fr4 s13' ∧
    mPaper (RS f (coreD ins rs (.list os) (.list sh)) rs s3 s4 s5 s6 s7 s8 (ow p) s10 s11 s12 s13 s14 s15) = some (.nx, RS f (coreD ins rs (.list os) (.list sh)) rs s3 s4 s5 s6 s7 s8 (ow p) s10 s11' s12' s13' s14 s15) := by
  let c0 := coreD ins rs (.list os) (.list sh)
  let Z : Sl → Sl → Sl → MS := fun s11 s12 s13 => RS f c0 rs s3 s4 s5 s6 s7 s8 (ow p) s10 s11 s12 s13 s14 s15
  let b1 := stepsB rs p
  let b2 := chainB rs p
  have t1 : sSet 11 (eFn f__law_copy (aCons (eVar 1) aNil)) (Z s11 s12 s13) = some (.nx, Z (ow c0) s12 s13) := sSet_val (i := 11) (ρ1 := Z s11 s12 s13) (eFn_eq (ds := [c0]) rfl (copy_ok G)) (h11.free rfl)
  have t2 : sSet 12 (un opRepr (eVar 9)) (Z (ow c0) s12 s13) = some (.nx, Z (ow c0) (ow (.str p.shown)) s13) := sSet_val (i := 12) (ρ1 := Z (ow c0) s12 s13) (un_eq (x := .val (.fr p)) (t := .fr p) rfl rfl hp.repr) (h12.free rfl)
  let ρ2 := Z (ow c0) (ow (.str p.shown)) s13
  have hgl : lNext (eVar 11) (lHere true (eVar 9) aNil) ρ2 = some (([c0], .val (.fr p), []), ρ2) := lNext_eq rfl (lHere_gen (ρ1 := ρ2) rfl rfl rfl)
  have g1 : fz (eFnL f_shows_steps (lNext (eVar 11) (lHere true (eVar 9) aNil))) ρ2 = some (.bool b1, ρ2) := fz_eq (eFnL_val (as := [c0]) (bs := []) hgl (shows_steps_gen G p hp.sm2)) rfl
  have g2 : fz (eFnL f_shows_chain (lNext (eVar 11) (lHere true (eVar 9) aNil))) ρ2 = some (.bool b2, ρ2) := fz_eq (eFnL_val (as := [c0]) (bs := []) hgl (shows_chain_gen G p hp.sm2.sm)) rfl
  have t3 : sSet 13 _ ρ2 = some (.nx, Z (ow c0) (ow (.str p.shown)) (.own (.lst ([PyData.bool b1, .bool b2].map T.fr)))) := sSet_val (i := 13) (ρ1 := ρ2) (eLst_eq (aCons_fz g1 (aCons_fz (gs := aNil) (ds := []) (ρ2 := ρ2) g2 rfl)) (by simp)) (h13.free rfl)
  let tb : T := .lst ([PyData.bool b1, .bool b2].map T.fr)
  let ρ3 := Z (ow c0) (ow (.str p.shown)) (.own tb)
  have ha : aCons (eVar 2) (aCons (eVar 9) aNil) ρ3 = some ([rowsD rs, p], ρ3) := rfl
  have g3 : fz (eFn f__law_are_steps (aCons (eVar 2) (aCons (eVar 9) aNil))) ρ3 = some (.bool b1, ρ3) := fz_eq (eFn_eq ha (law_are_steps_ok G p hp.sm2)) rfl
  have g4 : fz (eFn f__law_is_chain (aCons (eVar 2) (aCons (eVar 9) aNil))) ρ3 = some (.bool b2, ρ3) := fz_eq (eFn_eq ha (law_is_chain_ok G p hp.sm2.sm)) rfl
  have g5 := fz_lst (eLst_eq (aCons_fz g3 (aCons_fz (gs := aNil) (ds := []) (ρ2 := ρ3) g4 rfl)) (by simp))
  have g6 := eFnL_bor (G := f__law_same) (as := []) (bs := [.list [.bool b1, .bool b2]]) (i := 13) (p := []) (s := .own tb) (t0 := tb) (t := tb) (lHere_gen (q := true) (g := eVar 13) (ρ := ρ3) (ρ1 := ρ3) rfl (aCons_fz (gs := aNil) g5 rfl) rfl) rfl rfl rfl rfl (same_bools b1 b2) rfl
  have c1 := cNot_eq (cTru_eq g6 rfl rfl)
  have hr : un opRepr (eVar 9) ρ3 = some (.val (.fr (.str p.shown)), ρ3) := un_eq (x := .val (.fr p)) (t := .fr p) rfl rfl hp.repr
  have c2 : cOr (cOf (bin true opNe (un opRepr (eVar 9)) (eVar 12))) (cOf (bin true opNe (eVar 11) (eVar 1))) ρ3 = some (false, ρ3) := by
    refine cOr_eq (b := false) (cOf_eq (bin_eq hr rfl rfl rfl rfl (ne_str _)) rfl) ?_
    rw [if_neg Bool.false_ne_true]
    exact cOf_eq (bin_eq rfl rfl rfl rfl rfl (ne_fr hsh rfl)) rfl
  exact ⟨_, _, _, .inr ⟨_, rfl⟩, .inr ⟨_, rfl⟩, .inr ⟨_, rfl⟩, sSeq_eq t1 (sSeq_eq t2 (sSeq_eq t3 (sSeq_eq (ρ1 := ρ3) (sIf_eq c1 rfl) (sIf_eq c2 rfl))))⟩
theorem papers_ok (G : Good rs) (hsh : SeqAt.shaped (coreD ins rs (.list os) (.list sh)) = true) {ps : List PyData} (hl : ps.length ≤ 1000) (hp : ∀ p ∈ ps, Pap 3 p) : ∃ s9' s11' s12' s13',
    sFor (srcV T.asList (eVar 6)) (gNm 9) mPaper (RS f (coreD ins rs (.list os) (.list sh)) rs s3 s4 s5 (pps ps) s7 s8 .non s10 .non .non .non s14 s15) = some (.nx, RS f (coreD ins rs (.list os) (.list sh)) rs s3 s4 s5 (pps ps) s7 s8 s9' s10 s11' s12' s13' s14 s15) := by
  let c0 := coreD ins rs (.list os) (.list sh)
  let ρ := RS f c0 rs s3 s4 s5 (pps ps) s7 s8 .non s10 .non .non .non s14 s15
  have hsrc : srcV T.asList (eVar 6) ρ = some ((ps, some 6), ρ) := srcV_eq (x := .bor 6 []) rfl rfl (view_list ps)
  let S : Nat → MS → Prop := fun _ ρ => ∃ s9 s11 s12 s13, Fre s9 ∧ Fr4 s11 ∧ Fr4 s12 ∧ Fr4 s13 ∧ ρ = RS f c0 rs s3 s4 s5 .hid s7 s8 s9 s10 s11 s12 s13 s14 s15
  obtain ⟨ρ', ρ3, ⟨s9, s11, s12, s13, h9, h11, h12, h13, e⟩, hu, hfin⟩ := sFor_inv (m := gNm 9) (n := mPaper) hsrc S ⟨.non, .non, .non, .non, .inl rfl, .inl rfl, .inl rfl, .inl rfl, rfl⟩ (fun i ρ hi hS => by
    obtain ⟨s9, s11, s12, s13, h9, h11, h12, h13, rfl⟩ := hS
    obtain ⟨s11', s12', s13', g1, g2, g3, g4⟩ := paper_ok (f := f) (ins := ins) (os := os) (sh := sh) (s3 := s3) (s4 := s4) (s5 := s5) (s6 := .hid) (s7 := s7) (s8 := s8) (s10 := s10) (s14 := s14) (s15 := s15) G hsh (hp _ (List.getElem_mem hi)) h11 h12 h13
    refine ⟨RS f c0 rs s3 s4 s5 .hid s7 s8 (ow ps[i]) s10 s11 s12 s13 s14 s15, _, ?_, .inl g4, _, _, _, _, .inr ⟨_, rfl⟩, g1, g2, g3, rfl⟩
    rcases h9 with rfl | ⟨d, rfl⟩ <;> rfl) (fun ρ' hS => by
    obtain ⟨s9, s11, s12, s13, _, _, _, _, rfl⟩ := hS
    exact ⟨_, rfl⟩)
  subst e
  have hu := Option.some.inj hu
  subst hu
  exact ⟨s9, s11, s12, s13, hfin⟩
/-- both judges take what the law made -/
def mTake : DL.M Fl := sIf (cOr (cOf (bin true opIsNt (eFnL f_shows_steps (lNext (eFn f__law_copy (aCons (eVar 1) (aNil))) (lHere true (eVar 4) (aNil)))) (eC (.bool true)))) (cOf (bin true opIsNt (eFnL f_shows_chain (lNext (eFn f__law_copy (aCons (eVar 1) (aNil))) (lHere true (eVar 7) (aNil)))) (eC (.bool true))))) (sRet (eC (.bool false))) (sNx)
theorem take_ok (G : Good rs) {cs : List Nat} (hc : Ch rs rs.length cs) : mTake (RS f (coreD ins rs (.list os) (.list sh)) rs s3 (frL (stepN (RR rs) rs.length)) s5 s6 (ow (.list (natD cs))) s8 s9 s10 s11 s12 s13 s14 s15) = some (.nx, RS f (coreD ins rs (.list os) (.list sh)) rs s3 (frL (stepN (RR rs) rs.length)) s5 s6 (ow (.list (natD cs))) s8 s9 s10 s11 s12 s13 s14 s15) := by
  let c0 := coreD ins rs (.list os) (.list sh)
  let ρ := RS f c0 rs s3 (frL (stepN (RR rs) rs.length)) s5 s6 (ow (.list (natD cs))) s8 s9 s10 s11 s12 s13 s14 s15
  have hcp : fz (eFn f__law_copy (aCons (eVar 1) aNil)) ρ = some (c0, ρ) := fz_eq (eFn_eq (ds := [c0]) rfl (copy_ok G)) rfl
  have g1 : eFnL f_shows_steps (lNext (eFn f__law_copy (aCons (eVar 1) (aNil))) (lHere true (eVar 4) (aNil))) ρ = some (.val (.fr (.bool true)), ρ) :=
    eFnL_val (as := [c0]) (bs := []) (lNext_eq hcp (lHere_gen (ρ1 := ρ) rfl rfl rfl)) (shows_steps_ok (ins := ins) (os := .list os) (sh := .list sh) G (.inl rfl))
  have hl : cs.length ≤ 1000 := by have := hc.len; have := G.1; omega
  have h2 := shows_chain_gen (ins := ins) (os := .list os) (sh := .list sh) G (.list (natD cs)) (fun ds e => by cases e; rw [natD_len]; exact hl)
  rw [hc.chain] at h2
  have g2 : eFnL f_shows_chain (lNext (eFn f__law_copy (aCons (eVar 1) (aNil))) (lHere true (eVar 7) (aNil))) ρ = some (.val (.fr (.bool true)), ρ) :=
    eFnL_val (as := [c0]) (bs := []) (lNext_eq hcp (lHere_gen (ρ1 := ρ) rfl rfl rfl)) h2
  have c1 : cOr (cOf (bin true opIsNt (eFnL f_shows_steps (lNext (eFn f__law_copy (aCons (eVar 1) (aNil))) (lHere true (eVar 4) (aNil)))) (eC (.bool true)))) (cOf (bin true opIsNt (eFnL f_shows_chain (lNext (eFn f__law_copy (aCons (eVar 1) (aNil))) (lHere true (eVar 7) (aNil)))) (eC (.bool true)))) ρ = some (false, ρ) := by
    refine cOr_eq (b := false) (cOf_eq (bin_eq g1 rfl rfl rfl rfl rfl) rfl) ?_
    rw [if_neg Bool.false_ne_true]
    exact cOf_eq (bin_eq g2 rfl rfl rfl rfl rfl) rfl
  exact sIf_eq c1 rfl
end K71

namespace K71
open PySem PySem.Spec PyProof.Rows L2 DL
variable {f f' : Feed} {rs : List Row} {ins : Int} {os sh : List PyData}
theorem steps_lists (hn : rs.length ≤ 12) : Lists (stepN (RR rs) rs.length) := by
  refine ⟨?_, fun xs hx => ?_⟩
  · unfold stepN
    rw [List.length_map, List.length_range]
    have := deep_le (RR rs) rs.length
    omega
  · refine ⟨by have := step_len hx; omega, fun x hx2 => ?_⟩
    obtain ⟨l, _, rfl⟩ := mem_step hx
    have := List.mem_range.mp (List.mem_filter.mp hx2).1
    omega
theorem right_ok (G : Good rs) (hn : rs.length ≤ 12) (hf : f.ok) (hsh : SeqAt.shaped (coreD ins rs (.list os) (.list sh)) = true) : ∃ f' : Feed, f'.ok ∧ f__law_right [.pin f.tree, ow (coreD ins rs (.list os) (.list sh))] = some (.fr (.bool true), [.pin f'.tree, .non]) := by
  let c0 := coreD ins rs (.list os) (.list sh)
  let R := RR rs
  let n := rs.length
  let LN := stepN R n
  let MN := (List.range n).map fun k => [k]
  have hLs : Lists LN := steps_lists hn
  let lv := owl (levs R n)
  let fo : Sl := .own (.lst ((LD LN).map T.fr))
  let so : Sl := .own (.lst ((LD MN).map T.fr))
  let Z : Feed → Sl → Sl → Sl → Sl → Sl → Sl → Sl → MS := fun f s3 s4 s5 s6 s7 s8 s10 => RS f c0 rs s3 s4 s5 s6 s7 s8 .non s10 .non .non .non .non .non
  let ρ0 : MS := [.pin f.tree, ow c0, .non, .non, .non, .non, .non, .non, .non, .non, .non, .non, .non, .non, .non, .non]
  have t2 : sSet 2 (subs true opIx (eVar 1) (eC (.int 1))) ρ0 = some (.nx, Z f .non .non .non .non .non .non .non) := rfl
  have t3 : sSet 3 (eFn f__law_levels (aCons (eVar 2) aNil)) (Z f .non .non .non .non .non .non .non) = some (.nx, Z f lv .non .non .non .non .non .non) := sSet_val (i := 3) (ρ1 := Z f .non .non .non .non .non .non .non) (eFn_eq (ds := [rowsD rs]) rfl (levels2_ok G)) rfl
  have t4 : sSet 4 _ (Z f lv .non .non .non .non .non .non) = some (.nx, Z f lv fo .non .non .non .non .non) := sSet_val (i := 4) (ρ1 := Z f lv .non .non .non .non .non .non) (first_r G) rfl
  have t5 : sSet 5 _ (Z f lv fo .non .non .non .non .non) = some (.nx, Z f lv fo so .non .non .non .non) := sSet_val (i := 5) (ρ1 := Z f lv fo .non .non .non .non .non) (single_r (by omega)) rfl
  have V2 : Val (LD MN) := val_LD (by rw [List.length_map, List.length_range]; omega) fun xs hx => by
    obtain ⟨k, hk, rfl⟩ := List.mem_map.mp hx
    have := List.mem_range.mp hk
    exact ⟨by simp, fun x hx => by have : x = k := by simpa using hx
                                   omega⟩
  obtain ⟨f1, ps1, hf1, l1, p1, b1⟩ := bent_call (rs := rs) hf (by omega) (j := 4) hLs.val (s := fo) (.inl rfl) (ρ := Z f lv fo so .non .non .non .non) rfl len_r rfl (by omega)
  have b1 : eFnL f__law_bent (lHere true (eVar 0) (aCons (un opLen (eVar 2)) (aCons (eVar 4) (aNil)))) (Z f lv fo so .non .non .non .non) = some (.val (.lst (ps1.map T.fr)), Z f1 lv (frL LN) so .non .non .non .non) := b1
  obtain ⟨f2, ps2, hf2, l2, p2, b2⟩ := bent_call (rs := rs) hf1 (by omega) (j := 5) V2 (s := so) (.inl rfl) (ρ := Z f1 lv (frL LN) so .non .non .non .non) rfl len_r rfl (by omega)
  have b2 : eFnL f__law_bent (lHere true (eVar 0) (aCons (un opLen (eVar 2)) (aCons (eVar 5) (aNil)))) (Z f1 lv (frL LN) so .non .non .non .non) = some (.val (.lst (ps2.map T.fr)), Z f2 lv (frL LN) (frL MN) .non .non .non .non) := b2
  let qs1 := ps1 ++ ps2
  have hq1 : qs1.length ≤ 60 := by show (ps1 ++ ps2).length ≤ 60; rw [List.length_append]; omega
  have hp1 : ∀ p ∈ qs1, Pap 3 p := fun p hp => (List.mem_append.mp hp).elim (p1 p) (p2 p)
  have t6 : sSet 6 _ (Z f lv fo so .non .non .non .non) = some (.nx, Z f2 lv (frL LN) (frL MN) (pps qs1) .non .non .non) := sSet_val (i := 6) (ρ1 := Z f2 lv (frL LN) (frL MN) .non .non .non .non) (add_lsts (q := false) b1 b2 (by omega)) rfl
  have t7 := append_fz (q := true) (i := 6) (ps := qs1) (ρ := Z f2 lv (frL LN) (frL MN) (pps qs1) .non .non .non) (ρ' := Z f2 lv (frL LN) (frL MN) (pps qs1) .non .non .non) rfl (rows_r (by omega)) rfl (by omega)
  let qs2 := qs1 ++ [PyData.list (natD (List.range n))]
  have hq2 : qs2.length ≤ 61 := by show (qs1 ++ [PyData.list (natD (List.range n))]).length ≤ 61; rw [List.length_append]; simp; omega
  have hp2 : ∀ p ∈ qs2, Pap 3 p := fun p hp => by
    rcases List.mem_append.mp hp with hp | hp
    · exact hp1 p hp
    · have : p = .list (natD (List.range n)) := by simpa using hp
      subst this
      exact (pap_nat (by rw [List.length_range]; omega) fun x hx => by have := List.mem_range.mp hx; omega).up.up
  -- two steps and more
  have t8 : ∃ (f3 : Feed) (qs3 : List PyData) (s10 : Sl), f3.ok ∧ qs3.length ≤ 65 ∧ (∀ p ∈ qs3, Pap 3 p) ∧ sIf (cOf (bin true opGt (un opLen (eVar 4)) (eC (.int 1)))) mBig sNx (Z f2 lv (frL LN) (frL MN) (pps qs2) .non .non .non) = some (.nx, Z f3 lv (frL LN) (frL MN) (pps qs3) .non .non s10) := by
    have c := cOf_eq (bin_eq (q := true) (gb := eC (.int 1)) (len_f (f := f2) (rs := rs) (c0 := c0) (LN := LN) (s3 := lv) (s5 := frL MN) (s6 := pps qs2) (s7 := .non) (s8 := .non) (s9 := .non) (s10 := .non) (s11 := .non) (s12 := .non) (s13 := .non) (s14 := .non) (s15 := .non)) rfl rfl rfl rfl (DL.gt_int _ _)) rfl
    by_cases h2 : 2 ≤ LN.length
    · rw [decide_eq_true (by omega)] at c
      obtain ⟨f3, qs3, s10, a, b, d, e⟩ := big_ok (c0 := c0) (rs := rs) (s3 := lv) (s5 := frL MN) (s7 := .non) (s9 := .non) (s11 := .non) (s12 := .non) (s13 := .non) (s14 := .non) (s15 := .non) hf2 hLs h2 (ps := qs2) (by omega) hp2
      exact ⟨f3, qs3, s10, a, by omega, d, sIf_eq c e⟩
    · rw [decide_eq_false (by omega)] at c
      exact ⟨f2, qs2, .non, hf2, by omega, hp2, sIf_eq c rfl⟩
  obtain ⟨f3, qs3, s10, hf3, hq3, hp3, t8⟩ := t8
  have t9 : ∃ qs4 : List PyData, qs4.length ≤ 66 ∧ (∀ p ∈ qs4, Pap 3 p) ∧ sIf (cOf (bin true opGt (un opLen (eVar 4)) (eC (.int 0)))) mRev sNx (Z f3 lv (frL LN) (frL MN) (pps qs3) .non .non s10) = some (.nx, Z f3 lv (frL LN) (frL MN) (pps qs4) .non .non s10) := by
    have c := cOf_eq (bin_eq (q := true) (gb := eC (.int 0)) (len_f (f := f3) (rs := rs) (c0 := c0) (LN := LN) (s3 := lv) (s5 := frL MN) (s6 := pps qs3) (s7 := .non) (s8 := .non) (s9 := .non) (s10 := s10) (s11 := .non) (s12 := .non) (s13 := .non) (s14 := .non) (s15 := .non)) rfl rfl rfl rfl (DL.gt_int _ _)) rfl
    by_cases h1 : 1 ≤ LN.length
    · rw [decide_eq_true (by omega)] at c
      obtain ⟨qs4, a, b, e⟩ := rev_r (f := f3) (c0 := c0) (rs := rs) (s3 := lv) (s5 := frL MN) (s7 := .non) (s8 := .non) (s9 := .non) (s10 := s10) (s11 := .non) (s12 := .non) (s13 := .non) (s14 := .non) (s15 := .non) hLs h1 (ps := qs3) (by omega) hp3
      exact ⟨qs4, by omega, b, sIf_eq c e⟩
    · rw [decide_eq_false (by omega)] at c
      exact ⟨qs3, by omega, hp3, sIf_eq c rfl⟩
  obtain ⟨qs4, hq4, hp4, t9⟩ := t9
  have t10 : sSet 7 (eLst aNil) (Z f3 lv (frL LN) (frL MN) (pps qs4) .non .non s10) = some (.nx, Z f3 lv (frL LN) (frL MN) (pps qs4) (owl []) .non s10) := rfl
  obtain ⟨f4, cs, s8, hf4, hc, h8, t11⟩ := chain_r (f := f3) (c0 := c0) (s3 := lv) (s4 := frL LN) (s5 := frL MN) (s6 := pps qs4) (s9 := .non) (s10 := s10) (s11 := .non) (s12 := .non) (s13 := .non) (s14 := .non) (s15 := .non) G hf3
  have hcl := hc.len
  have V3 : Val (natD cs) := val_nat (by omega) fun x hx => by have := hc.lt x hx; omega
  obtain ⟨f5, ps3, hf5, l3, p3, b3⟩ := bent_call (rs := rs) hf4 (by omega) (j := 7) V3 (s := owl cs) (.inl rfl) (ρ := Z f4 lv (frL LN) (frL MN) (pps qs4) (owl cs) s8 s10) rfl len_r rfl (by omega)
  have b3 : eFnL f__law_bent (lHere true (eVar 0) (aCons (un opLen (eVar 2)) (aCons (eVar 7) (aNil)))) (Z f4 lv (frL LN) (frL MN) (pps qs4) (owl cs) s8 s10) = some (.val (.lst (ps3.map T.fr)), Z f5 lv (frL LN) (frL MN) (pps qs4) (ow (.list (natD cs))) s8 s10) := b3
  let qs5 := qs4 ++ ps3
  have t12 : sSet 6 (bin false opAdd (eVar 6) (eFnL f__law_bent (lHere true (eVar 0) (aCons (un opLen (eVar 2)) (aCons (eVar 7) (aNil)))))) (Z f4 lv (frL LN) (frL MN) (pps qs4) (owl cs) s8 s10) = some (.nx, Z f5 lv (frL LN) (frL MN) (pps qs5) (ow (.list (natD cs))) s8 s10) := by
    have hb : bin false opAdd (eVar 6) (eFnL f__law_bent (lHere true (eVar 0) (aCons (un opLen (eVar 2)) (aCons (eVar 7) (aNil))))) (Z f4 lv (frL LN) (frL MN) (pps qs4) (owl cs) s8 s10) = some (.val (.lst ((qs4 ++ ps3).map T.fr)), Z f5 lv (frL LN) (frL MN) (pps qs4) (ow (.list (natD cs))) s8 s10) :=
      bin_eq (x := .bor 6 []) (t := .lst (qs4.map T.fr)) rfl b3 rfl rfl rfl (opAdd_lst (by rw [sizeLine_eq]; omega))
    exact sSet_val (i := 6) (ρ1 := Z f5 lv (frL LN) (frL MN) (pps qs4) (ow (.list (natD cs))) s8 s10) hb rfl
  have t13 := take_ok (f := f5) (ins := ins) (os := os) (sh := sh) (s3 := lv) (s5 := frL MN) (s6 := pps qs5) (s8 := s8) (s9 := .non) (s10 := s10) (s11 := .non) (s12 := .non) (s13 := .non) (s14 := .non) (s15 := .non) G hc
  obtain ⟨s9', s11', s12', s13', t14⟩ := papers_ok (f := f5) (ins := ins) (os := os) (sh := sh) (s3 := lv) (s4 := frL LN) (s5 := frL MN) (s7 := ow (.list (natD cs))) (s8 := s8) (s10 := s10) (s14 := .non) (s15 := .non) G hsh (ps := qs5) (by show (qs4 ++ ps3).length ≤ 1000; rw [List.length_append]; omega) fun p hp => (List.mem_append.mp hp).elim (hp4 p) (p3 p)
  let ρe := RS f5 c0 rs lv (frL LN) (frL MN) (pps qs5) (ow (.list (natD cs))) s8 s9' s10 s11' s12' s13' .non .non
  exact ⟨f5, hf5, runFn_ret (ρ := ρe) ⟨rfl, rfl⟩ (sSeq_eq t2 (sSeq_eq t3 (sSeq_eq t4 (sSeq_eq t5 (sSeq_eq t6 (sSeq_eq t7 (sSeq_eq t8 (sSeq_eq t9 (sSeq_eq t10 (sSeq_eq t11 (sSeq_eq t12 (sSeq_eq t13 (sSeq_eq t14 rfl)))))))))))))⟩
end K71

namespace K71
open PySem PySem.Spec PyProof.Rows L2 DL
def isB (b : Bool) : Option (T × MS) → Bool
  | some (.fr (.bool c), _) => c == b
  | _ => false
theorem isB_ok {b : Bool} {x : Option (T × MS)} (h : isB b x = true) : ∃ ps, x = some (.fr (.bool b), ps) := by
  unfold isB at h
  split at h
  · have := beq_iff_eq.mp h
    subst this
    exact ⟨_, rfl⟩
  · cases h
def rs1 : List Row := [.turn "h" [0], .turn "h" [1], .turn "cz" [0, 1]]
def c1 : PyData := coreD 2 rs1 (.list (natD [0, 1])) (.list (natD []))
theorem q1 : isB true (f_shows_chain [ow c1, .own (.lst ((natD [0, 2]).map T.fr))]) = true := by decide +kernel
end K71
namespace K71
open PySem PySem.Spec PyProof.Rows L2 DL
theorem q2 : isB false (f_shows_chain [ow c1, .own (.lst ((natD [0, 1]).map T.fr))]) = true := by decide +kernel
theorem q3 : isB true (f_shows_chain [ow c1, .own (.lst ((natD []).map T.fr))]) = true := by decide +kernel
theorem q4 : isB true (f_shows_steps [ow c1, .own (.lst ((LD [[0, 1], [2]]).map T.fr))]) = true := by decide +kernel
theorem q5 : isB true (f_shows_steps [ow c1, .own (.lst ((LD [[1], [], [0], [2]]).map T.fr))]) = true := by decide +kernel
theorem q6 : isB false (f_shows_steps [ow c1, .own (.lst ((LD [[1, 0], [2]]).map T.fr))]) = true := by decide +kernel
theorem q7 : isB false (f_shows_steps [ow c1, .own (.lst ((LD [[0, 2], [1]]).map T.fr))]) = true := by decide +kernel
theorem r1 : isB true (f__law_same [.own (.lst ([PyData.bool true, .bool true].map T.fr)), ow (.list [.bool true, .bool true])]) = true := by decide +kernel
theorem r2 : isB true (f__law_same [.own (.lst ([PyData.bool false, .bool false].map T.fr)), ow (.list [.bool false, .bool false])]) = true := by decide +kernel
theorem r3 : isB true (f__law_same [.own (.lst ([PyData.bool true, .bool false, .bool true].map T.fr)), ow (.list [.bool true, .bool false, .bool true])]) = true := by decide +kernel
end K71

namespace K71
open PySem PySem.Spec PyProof.Rows L2 DL
variable {ns : List Int} {f : Feed} {s2 s3 s4 : Sl}
theorem law_turn (hf : f.ok) : ∃ (f' : Feed), f'.ok ∧ (sIf (cNot (cTru (eFnL f__law_right (lHere false (eVar 1) (aCons (eFnL f__law_core (lHere false (eVar 1) (aCons (eFnL f__law_draw (lHere true (eVar 1) (aCons (eC (.int 3)) (aNil)))) (aCons (eC (.int 4)) (aCons (eC (.int 12)) (aNil)))))) (aNil)))))) (sRet (eC (.bool false))) (sNx)) (SL ns f s2 s3 s4) = some (.nx, SL ns f' s2 s3 s4) := by
  obtain ⟨f2, ins, hf2, hi, hd2⟩ := draw_l (ns := ns) (s2 := s2) (s3 := s3) (s4 := s4) hf 3 (by omega) (by omega)
  obtain ⟨f3, rs, os, sh, hf3, G, hlen, hsh, hc⟩ := core_ok (ins := (ins : Int)) (most := 12) hf2 (by omega) (by omega)
  have hargs : aCons (eFnL f__law_draw (lHere true (eVar 1) (aCons (eC (.int 3)) (aNil)))) (aCons (eC (.int 4)) (aCons (eC (.int 12)) (aNil))) (SL ns f s2 s3 s4) = some ([.int (ins : Nat), .int 4, .int 12], SL ns f2 s2 s3 s4) :=
    aCons_fz (fz_eq hd2 rfl) rfl
  have hcall : eFnL f__law_core (lHere false (eVar 1) (aCons (eFnL f__law_draw (lHere true (eVar 1) (aCons (eC (.int 3)) (aNil)))) (aCons (eC (.int 4)) (aCons (eC (.int 12)) (aNil))))) (SL ns f s2 s3 s4) = some (.val (.fr (coreD (ins : Int) rs (.list os) (.list sh))), SL ns f3 s2 s3 s4) :=
    eFnL_lent (as := []) (i := 1) (p := []) (s := .own f2.tree) (t0 := f2.tree) (t := f2.tree) (t' := f3.tree) (lHere_gen (ρ1 := SL ns f s2 s3 s4) rfl hargs waits0) rfl rfl rfl hc rfl
  obtain ⟨f4, hf4, hr⟩ := right_ok (ins := (ins : Int)) (os := os) (sh := sh) G (by omega) hf3 hsh
  have hcall2 : eFnL f__law_right (lHere false (eVar 1) (aCons (eFnL f__law_core (lHere false (eVar 1) (aCons (eFnL f__law_draw (lHere true (eVar 1) (aCons (eC (.int 3)) (aNil)))) (aCons (eC (.int 4)) (aCons (eC (.int 12)) (aNil)))))) (aNil))) (SL ns f s2 s3 s4) = some (.val (.fr (.bool true)), SL ns f4 s2 s3 s4) :=
    eFnL_lent (as := []) (bs := [coreD (ins : Int) rs (.list os) (.list sh)]) (i := 1) (p := []) (s := .own f3.tree) (t0 := f3.tree) (t := f3.tree) (t' := f4.tree) (lHere_gen (ρ1 := SL ns f s2 s3 s4) rfl (aCons_fz (gs := aNil) (fz_eq hcall rfl) rfl) waits0) rfl rfl rfl hr rfl
  exact ⟨f4, hf4, sIf_eq (cNot_eq (cTru_eq hcall2 rfl rfl)) rfl⟩
/-- a call of a judge at a made list -/
theorem judge_c {G : Fn} {b : Bool} {ds : List PyData} {g : DL.M DL.R} {ρ : MS} (hv : fz (eVar 4) ρ = some (c1, ρ)) (hg : g ρ = some (.val (.lst (ds.map T.fr)), ρ)) (hq : isB b (G [ow c1, .own (.lst (ds.map T.fr))]) = true) : fz (eFnL G (lNext (eVar 4) (lHere true g aNil))) ρ = some (.bool b, ρ) := by
  obtain ⟨ps, hG⟩ := isB_ok hq
  exact fz_eq (eFnL_val (as := [c1]) (bs := []) (lNext_eq hv (lHere_gen (ρ1 := ρ) hg rfl rfl)) hG) rfl
theorem same_c {ds es : List PyData} {g ge : DL.M DL.R} {ρ : MS} (hg : g ρ = some (.val (.lst (ds.map T.fr)), ρ)) (he : fz ge ρ = some (.list es, ρ)) (hq : isB true (f__law_same [.own (.lst (ds.map T.fr)), ow (.list es)]) = true) : eFnL f__law_same (lHere true g (aCons ge aNil)) ρ = some (.val (.fr (.bool true)), ρ) := by
  obtain ⟨ps, hG⟩ := isB_ok hq
  exact eFnL_val (as := []) (bs := [.list es]) (lHere_gen (ρ1 := ρ) hg (aCons_fz (gs := aNil) he rfl) rfl) hG
theorem law_end : ∃ ρ', (sSeq (sSet 3 (eLst (aCons (eTup (aCons (eC (.str "turn")) (aCons (eC (.str "h")) (aCons (eLst (aCons (eC (.int 0)) (aNil))) (aNil))))) (aCons (eTup (aCons (eC (.str "turn")) (aCons (eC (.str "h")) (aCons (eLst (aCons (eC (.int 1)) (aNil))) (aNil))))) (aCons (eTup (aCons (eC (.str "turn")) (aCons (eC (.str "cz")) (aCons (eLst (aCons (eC (.int 0)) (aCons (eC (.int 1)) (aNil)))) (aNil))))) (aNil))))))
  (sSeq (sSet 4 (eTup (aCons (eC (.int 2)) (aCons (eVar 3) (aCons (eLst (aCons (eC (.int 0)) (aCons (eC (.int 1)) (aNil)))) (aCons (eLst (aNil)) (aNil)))))))
  (sSeq (sIf (cNot (cTru (eFnL f__law_same (lHere true (eLst (aCons (eFnL f_shows_steps (lNext (eVar 4) (lHere true (eLst (aCons (eLst (aCons (eC (.int 0)) (aCons (eC (.int 1)) (aNil)))) (aCons (eLst (aCons (eC (.int 2)) (aNil))) (aNil)))) (aNil)))) (aCons (eFnL f_shows_steps (lNext (eVar 4) (lHere true (eLst (aCons (eLst (aCons (eC (.int 1)) (aNil))) (aCons (eLst (aNil)) (aCons (eLst (aCons (eC (.int 0)) (aNil))) (aCons (eLst (aCons (eC (.int 2)) (aNil))) (aNil)))))) (aNil)))) (aNil)))) (aCons (eLst (aCons (eC (.bool true)) (aCons (eC (.bool true)) (aNil)))) (aNil)))))) (sRet (eC (.bool false))) (sNx))
  (sSeq (sIf (cNot (cTru (eFnL f__law_same (lHere true (eLst (aCons (eFnL f_shows_steps (lNext (eVar 4) (lHere true (eLst (aCons (eLst (aCons (eC (.int 1)) (aCons (eC (.int 0)) (aNil)))) (aCons (eLst (aCons (eC (.int 2)) (aNil))) (aNil)))) (aNil)))) (aCons (eFnL f_shows_steps (lNext (eVar 4) (lHere true (eLst (aCons (eLst (aCons (eC (.int 0)) (aCons (eC (.int 2)) (aNil)))) (aCons (eLst (aCons (eC (.int 1)) (aNil))) (aNil)))) (aNil)))) (aNil)))) (aCons (eLst (aCons (eC (.bool false)) (aCons (eC (.bool false)) (aNil)))) (aNil)))))) (sRet (eC (.bool false))) (sNx))
  (sRet (eFnL f__law_same (lHere true (eLst (aCons (eFnL f_shows_chain (lNext (eVar 4) (lHere true (eLst (aCons (eC (.int 0)) (aCons (eC (.int 2)) (aNil)))) (aNil)))) (aCons (eFnL f_shows_chain (lNext (eVar 4) (lHere true (eLst (aCons (eC (.int 0)) (aCons (eC (.int 1)) (aNil)))) (aNil)))) (aCons (eFnL f_shows_chain (lNext (eVar 4) (lHere true (eLst (aNil)) (aNil)))) (aNil))))) (aCons (eLst (aCons (eC (.bool true)) (aCons (eC (.bool false)) (aCons (eC (.bool true)) (aNil))))) (aNil))))))))) (SL ns f s2 .non .non) = some (.rt (.val (.fr (.bool true))), ρ') := by
  let ρ0 := SL ns f s2 .non .non
  let ρ1 := SL ns f s2 (rowsS rs1) .non
  let ρ2 := SL ns f s2 (ow (rowsD rs1)) (ow c1)
  have e1 : fz (eTup (aCons (eC (.str "turn")) (aCons (eC (.str "h")) (aCons (eLst (aCons (eC (.int 0)) (aNil))) (aNil))))) ρ0 = some ((Row.turn "h" [0]).enc, ρ0) := rfl
  have e2 : fz (eTup (aCons (eC (.str "turn")) (aCons (eC (.str "h")) (aCons (eLst (aCons (eC (.int 1)) (aNil))) (aNil))))) ρ0 = some ((Row.turn "h" [1]).enc, ρ0) := rfl
  have e3 : fz (eTup (aCons (eC (.str "turn")) (aCons (eC (.str "cz")) (aCons (eLst (aCons (eC (.int 0)) (aCons (eC (.int 1)) (aNil)))) (aNil))))) ρ0 = some ((Row.turn "cz" [0, 1]).enc, ρ0) := rfl
  have t3 : sSet 3 _ ρ0 = some (.nx, ρ1) := sSet_val (i := 3) (ρ1 := ρ0) (eLst_eq (aCons_fz e1 (aCons_fz e2 (aCons_fz (gs := aNil) (ds := []) (ρ2 := ρ0) e3 rfl))) (by decide)) rfl
  have h3 : fz (eVar 3) ρ1 = some (rowsD rs1, SL ns f s2 (ow (rowsD rs1)) .non) := (show DS (rowsS rs1) (rs1.map Row.enc) from .inl rfl).frz (i := 3) rfl
  have tu : eTup (aCons (eC (.int 2)) (aCons (eVar 3) (aCons (eLst (aCons (eC (.int 0)) (aCons (eC (.int 1)) (aNil)))) (aCons (eLst (aNil)) (aNil))))) ρ1 = some (.val (.fr c1), SL ns f s2 (ow (rowsD rs1)) .non) := by
    show ((aCons _ _ ρ1).bind _) = _
    rw [aCons_fz (ρ1 := ρ1) (d := .int 2) rfl (aCons_fz h3 (ds := [.list (natD [0, 1]), .list (natD [])]) (ρ2 := SL ns f s2 (ow (rowsD rs1)) .non) rfl)]
    rfl
  have t4 : sSet 4 _ ρ1 = some (.nx, ρ2) := sSet_val (i := 4) (ρ1 := SL ns f s2 (ow (rowsD rs1)) .non) tu rfl
  have hv : fz (eVar 4) ρ2 = some (c1, ρ2) := rfl
  have l0 : ∀ a b : Nat, eLst (aCons (eC (.int (a : Nat))) (aCons (eC (.int (b : Nat))) aNil)) ρ2 = some (.val (.lst ((natD [a, b]).map T.fr)), ρ2) := fun a b => eLst_eq (ds := natD [a, b]) rfl (by simp [natD])
  have l1 : ∀ a : Nat, eLst (aCons (eC (.int (a : Nat))) aNil) ρ2 = some (.val (.lst ((natD [a]).map T.fr)), ρ2) := fun a => eLst_eq (ds := natD [a]) rfl (by simp [natD])
  have a1 := judge_c (G := f_shows_steps) hv (eLst_eq (ds := LD [[0, 1], [2]]) (aCons_fz (fz_lst (l0 0 1)) (aCons_fz (gs := aNil) (ds := []) (ρ2 := ρ2) (fz_lst (l1 2)) rfl)) (by simp [LD])) q4
  have a2 := judge_c (G := f_shows_steps) hv (eLst_eq (ds := LD [[1], [], [0], [2]]) (aCons_fz (fz_lst (l1 1)) (aCons_fz (g := eLst aNil) (ρ1 := ρ2) (d := .list (natD [])) rfl (aCons_fz (fz_lst (l1 0)) (aCons_fz (gs := aNil) (ds := []) (ρ2 := ρ2) (fz_lst (l1 2)) rfl)))) (by simp [LD])) q5
  have b1 := same_c (eLst_eq (aCons_fz a1 (aCons_fz (gs := aNil) (ds := []) (ρ2 := ρ2) a2 rfl)) (by simp)) (ge := eLst (aCons (eC (.bool true)) (aCons (eC (.bool true)) (aNil)))) rfl r1
  have a3 := judge_c (G := f_shows_steps) hv (eLst_eq (ds := LD [[1, 0], [2]]) (aCons_fz (fz_lst (l0 1 0)) (aCons_fz (gs := aNil) (ds := []) (ρ2 := ρ2) (fz_lst (l1 2)) rfl)) (by simp [LD])) q6
  have a4 := judge_c (G := f_shows_steps) hv (eLst_eq (ds := LD [[0, 2], [1]]) (aCons_fz (fz_lst (l0 0 2)) (aCons_fz (gs := aNil) (ds := []) (ρ2 := ρ2) (fz_lst (l1 1)) rfl)) (by simp [LD])) q7
  have b2 := same_c (eLst_eq (aCons_fz a3 (aCons_fz (gs := aNil) (ds := []) (ρ2 := ρ2) a4 rfl)) (by simp)) (ge := eLst (aCons (eC (.bool false)) (aCons (eC (.bool false)) (aNil)))) rfl r2
  have a5 := judge_c (G := f_shows_chain) hv (l0 0 2) q1
  have a6 := judge_c (G := f_shows_chain) hv (l0 0 1) q2
  have a7 := judge_c (G := f_shows_chain) (g := eLst aNil) (ds := natD []) hv rfl q3
  have b3 := same_c (eLst_eq (aCons_fz a5 (aCons_fz a6 (aCons_fz (gs := aNil) (ds := []) (ρ2 := ρ2) a7 rfl))) (by simp)) (ge := eLst (aCons (eC (.bool true)) (aCons (eC (.bool false)) (aCons (eC (.bool true)) (aNil))))) rfl r3
  exact ⟨ρ2, sSeq_eq t3 (sSeq_eq t4 (sSeq_eq (ρ1 := ρ2) (sIf_eq (cNot_eq (cTru_eq b1 rfl rfl)) rfl) (sSeq_eq (ρ1 := ρ2) (sIf_eq (cNot_eq (cTru_eq b2 rfl rfl)) rfl) (sRet_eq b3))))⟩
theorem plain : Holds63 f_law := fun ns hl => by
  let f0 : Feed := ⟨ns, 0, 0, 1⟩
  have hf0 : f0.ok := ⟨by show (0 : Int) ≤ 0; omega, by show (0 : Int) ≤ 0; omega, by show (0 : Int) ≤ 1; omega, by show (1 : Int) < 2147483648; omega⟩
  let ρ0 : MS := [.own (.scr (ns.map PyData.int)), .non, .non, .non, .non]
  have t1 : sSet 1 (eFnL f__law_feed (lHere true (eVar 0) (aNil))) ρ0 = some (.nx, SL ns f0 .non .non .non) :=
    sSet_val (i := 1) (ρ1 := ρ0) (eFnL_lent (as := []) (bs := []) (i := 0) (p := []) (s := .own (.scr (ns.map PyData.int))) (lHere_gen (ρ1 := ρ0) (ρ2 := ρ0) rfl rfl rfl) rfl rfl rfl (feed_ok ns) rfl) rfl
  let S : Nat → MS → Prop := fun _ ρ => ∃ (f : Feed) (s2 : Sl), f.ok ∧ Fre s2 ∧ ρ = SL ns f s2 .non .non
  have hsrc : srcR rng1 (aCons (eC (.int 2)) aNil) (SL ns f0 .non .non .non) = some ((natD (List.range 2), none), SL ns f0 .non .non .non) := srcR_eq (ds := [.int ((2 : Nat) : Int)]) rfl (rng1_nat (by omega))
  obtain ⟨ρ', ρ4, ⟨f, s2, hf, h2, e⟩, hu, hfin⟩ := sFor_inv (m := gNm 2) hsrc S ⟨f0, .non, hf0, .inl rfl, rfl⟩ (fun t ρ ht hS => by
    obtain ⟨f, s2, hf, h2, rfl⟩ := hS
    obtain ⟨f', hf', hh⟩ := law_turn (ns := ns) (s2 := ow ((natD (List.range 2))[t]'ht)) (s3 := .non) (s4 := .non) hf
    refine ⟨SL ns f (ow ((natD (List.range 2))[t]'ht)) .non .non, _, ?_, .inl hh, f', _, hf', .inr ⟨_, rfl⟩, rfl⟩
    rcases h2 with rfl | ⟨d, rfl⟩ <;> rfl) (fun ρ' _ => ⟨ρ', rfl⟩)
  subst e
  have hu := Option.some.inj hu
  subst hu
  obtain ⟨ρ5, h5⟩ := law_end (ns := ns) (f := f) (s2 := s2)
  exact ⟨_, runFn_ret (n := 1) (nsl := 5) (m := m_law) (ρ := ρ5) ⟨rfl, rfl⟩ (sSeq_eq t1 (sSeq_eq hfin h5))⟩
end K71


namespace K71
open PySem PySem.Spec PyProof.Rows L2 DL
theorem fx_mk {K : PySem.W.Frag} {h : Heap} {mg : Str → Option Value} (X : K.In h) (G : h.Ns mainGlobals mg)
    {f0 : Addr} {od0 an0 : Option Addr} {sl0 : Array (Option Value)} {oc0 kV0 dc0 pm0 cd0 ct0 : Value}
    (a0 : PySem.W.nsIn K mainGlobals "is_whole" = some (some (.ref f0))) (l0 : K.lookup f0 = some ⟨oc0, od0, .func (PySem.W.fnOf "is_whole" "is_whole" (defArgs s_is_whole) (defBody s_is_whole) (defScope s_is_whole) .none kV0 dc0 pm0 an0 cd0 ct0), sl0⟩) (c0 : PySem.W.codeIn K cd0 "is_whole" = true) (k0 : PySem.W.keepIn K (.ref f0) = true)
    {f1 : Addr} {od1 an1 : Option Addr} {sl1 : Array (Option Value)} {oc1 kV1 dc1 pm1 cd1 ct1 : Value}
    (a1 : PySem.W.nsIn K mainGlobals "are_wholes" = some (some (.ref f1))) (l1 : K.lookup f1 = some ⟨oc1, od1, .func (PySem.W.fnOf "are_wholes" "are_wholes" (defArgs s_are_wholes) (defBody s_are_wholes) (defScope s_are_wholes) .none kV1 dc1 pm1 an1 cd1 ct1), sl1⟩) (c1 : PySem.W.codeIn K cd1 "are_wholes" = true) (k1 : PySem.W.keepIn K (.ref f1) = true)
    {f2 : Addr} {od2 an2 : Option Addr} {sl2 : Array (Option Value)} {oc2 kV2 dc2 pm2 cd2 ct2 : Value}
    (a2 : PySem.W.nsIn K mainGlobals "are_between" = some (some (.ref f2))) (l2 : K.lookup f2 = some ⟨oc2, od2, .func (PySem.W.fnOf "are_between" "are_between" (defArgs s_are_between) (defBody s_are_between) (defScope s_are_between) .none kV2 dc2 pm2 an2 cd2 ct2), sl2⟩) (c2 : PySem.W.codeIn K cd2 "are_between" = true) (k2 : PySem.W.keepIn K (.ref f2) = true)
    {f3 : Addr} {od3 an3 : Option Addr} {sl3 : Array (Option Value)} {oc3 kV3 dc3 pm3 cd3 ct3 : Value}
    (a3 : PySem.W.nsIn K mainGlobals "is_rising" = some (some (.ref f3))) (l3 : K.lookup f3 = some ⟨oc3, od3, .func (PySem.W.fnOf "is_rising" "is_rising" (defArgs s_is_rising) (defBody s_is_rising) (defScope s_is_rising) .none kV3 dc3 pm3 an3 cd3 ct3), sl3⟩) (c3 : PySem.W.codeIn K cd3 "is_rising" = true) (k3 : PySem.W.keepIn K (.ref f3) = true)
    {f4 : Addr} {od4 an4 : Option Addr} {sl4 : Array (Option Value)} {oc4 kV4 dc4 pm4 cd4 ct4 : Value}
    (a4 : PySem.W.nsIn K mainGlobals "are_lists_of_wholes" = some (some (.ref f4))) (l4 : K.lookup f4 = some ⟨oc4, od4, .func (PySem.W.fnOf "are_lists_of_wholes" "are_lists_of_wholes" (defArgs s_are_lists_of_wholes) (defBody s_are_lists_of_wholes) (defScope s_are_lists_of_wholes) .none kV4 dc4 pm4 an4 cd4 ct4), sl4⟩) (c4 : PySem.W.codeIn K cd4 "are_lists_of_wholes" = true) (k4 : PySem.W.keepIn K (.ref f4) = true)
    {f5 : Addr} {od5 an5 : Option Addr} {sl5 : Array (Option Value)} {oc5 kV5 dc5 pm5 cd5 ct5 : Value}
    (a5 : PySem.W.nsIn K mainGlobals "slots_of" = some (some (.ref f5))) (l5 : K.lookup f5 = some ⟨oc5, od5, .func (PySem.W.fnOf "slots_of" "slots_of" (defArgs s_slots_of) (defBody s_slots_of) (defScope s_slots_of) .none kV5 dc5 pm5 an5 cd5 ct5), sl5⟩) (c5 : PySem.W.codeIn K cd5 "slots_of" = true) (k5 : PySem.W.keepIn K (.ref f5) = true)
    {f6 : Addr} {od6 an6 : Option Addr} {sl6 : Array (Option Value)} {oc6 kV6 dc6 pm6 cd6 ct6 : Value}
    (a6 : PySem.W.nsIn K mainGlobals "do_share" = some (some (.ref f6))) (l6 : K.lookup f6 = some ⟨oc6, od6, .func (PySem.W.fnOf "do_share" "do_share" (defArgs s_do_share) (defBody s_do_share) (defScope s_do_share) .none kV6 dc6 pm6 an6 cd6 ct6), sl6⟩) (c6 : PySem.W.codeIn K cd6 "do_share" = true) (k6 : PySem.W.keepIn K (.ref f6) = true)
    {f7 : Addr} {od7 an7 : Option Addr} {sl7 : Array (Option Value)} {oc7 kV7 dc7 pm7 cd7 ct7 : Value}
    (a7 : PySem.W.nsIn K mainGlobals "reads_for" = some (some (.ref f7))) (l7 : K.lookup f7 = some ⟨oc7, od7, .func (PySem.W.fnOf "reads_for" "reads_for" (defArgs s_reads_for) (defBody s_reads_for) (defScope s_reads_for) .none kV7 dc7 pm7 an7 cd7 ct7), sl7⟩) (c7 : PySem.W.codeIn K cd7 "reads_for" = true) (k7 : PySem.W.keepIn K (.ref f7) = true)
    {f8 : Addr} {od8 an8 : Option Addr} {sl8 : Array (Option Value)} {oc8 kV8 dc8 pm8 cd8 ct8 : Value}
    (a8 : PySem.W.nsIn K mainGlobals "hang_together" = some (some (.ref f8))) (l8 : K.lookup f8 = some ⟨oc8, od8, .func (PySem.W.fnOf "hang_together" "hang_together" (defArgs s_hang_together) (defBody s_hang_together) (defScope s_hang_together) .none kV8 dc8 pm8 an8 cd8 ct8), sl8⟩) (c8 : PySem.W.codeIn K cd8 "hang_together" = true) (k8 : PySem.W.keepIn K (.ref f8) = true)
    {f9 : Addr} {od9 an9 : Option Addr} {sl9 : Array (Option Value)} {oc9 kV9 dc9 pm9 cd9 ct9 : Value}
    (a9 : PySem.W.nsIn K mainGlobals "shows_chain" = some (some (.ref f9))) (l9 : K.lookup f9 = some ⟨oc9, od9, .func (PySem.W.fnOf "shows_chain" "shows_chain" (defArgs s_shows_chain) (defBody s_shows_chain) (defScope s_shows_chain) .none kV9 dc9 pm9 an9 cd9 ct9), sl9⟩) (c9 : PySem.W.codeIn K cd9 "shows_chain" = true) (k9 : PySem.W.keepIn K (.ref f9) = true)
    {f10 : Addr} {od10 an10 : Option Addr} {sl10 : Array (Option Value)} {oc10 kV10 dc10 pm10 cd10 ct10 : Value}
    (a10 : PySem.W.nsIn K mainGlobals "shows_steps" = some (some (.ref f10))) (l10 : K.lookup f10 = some ⟨oc10, od10, .func (PySem.W.fnOf "shows_steps" "shows_steps" (defArgs s_shows_steps) (defBody s_shows_steps) (defScope s_shows_steps) .none kV10 dc10 pm10 an10 cd10 ct10), sl10⟩) (c10 : PySem.W.codeIn K cd10 "shows_steps" = true) (k10 : PySem.W.keepIn K (.ref f10) = true)
    {f11 : Addr} {od11 an11 : Option Addr} {sl11 : Array (Option Value)} {oc11 kV11 dc11 pm11 cd11 ct11 : Value}
    (a11 : PySem.W.nsIn K mainGlobals "_law_feed" = some (some (.ref f11))) (l11 : K.lookup f11 = some ⟨oc11, od11, .func (PySem.W.fnOf "_law_feed" "_law_feed" (defArgs s__law_feed) (defBody s__law_feed) (defScope s__law_feed) .none kV11 dc11 pm11 an11 cd11 ct11), sl11⟩) (c11 : PySem.W.codeIn K cd11 "_law_feed" = true) (k11 : PySem.W.keepIn K (.ref f11) = true)
    {f12 : Addr} {od12 an12 : Option Addr} {sl12 : Array (Option Value)} {oc12 kV12 dc12 pm12 cd12 ct12 : Value}
    (a12 : PySem.W.nsIn K mainGlobals "_law_draw" = some (some (.ref f12))) (l12 : K.lookup f12 = some ⟨oc12, od12, .func (PySem.W.fnOf "_law_draw" "_law_draw" (defArgs s__law_draw) (defBody s__law_draw) (defScope s__law_draw) .none kV12 dc12 pm12 an12 cd12 ct12), sl12⟩) (c12 : PySem.W.codeIn K cd12 "_law_draw" = true) (k12 : PySem.W.keepIn K (.ref f12) = true)
    {f13 : Addr} {od13 an13 : Option Addr} {sl13 : Array (Option Value)} {oc13 kV13 dc13 pm13 cd13 ct13 : Value}
    (a13 : PySem.W.nsIn K mainGlobals "_law_whole" = some (some (.ref f13))) (l13 : K.lookup f13 = some ⟨oc13, od13, .func (PySem.W.fnOf "_law_whole" "_law_whole" (defArgs s__law_whole) (defBody s__law_whole) (defScope s__law_whole) .none kV13 dc13 pm13 an13 cd13 ct13), sl13⟩) (c13 : PySem.W.codeIn K cd13 "_law_whole" = true) (k13 : PySem.W.keepIn K (.ref f13) = true)
    {f14 : Addr} {od14 an14 : Option Addr} {sl14 : Array (Option Value)} {oc14 kV14 dc14 pm14 cd14 ct14 : Value}
    (a14 : PySem.W.nsIn K mainGlobals "_law_slots" = some (some (.ref f14))) (l14 : K.lookup f14 = some ⟨oc14, od14, .func (PySem.W.fnOf "_law_slots" "_law_slots" (defArgs s__law_slots) (defBody s__law_slots) (defScope s__law_slots) .none kV14 dc14 pm14 an14 cd14 ct14), sl14⟩) (c14 : PySem.W.codeIn K cd14 "_law_slots" = true) (k14 : PySem.W.keepIn K (.ref f14) = true)
    {f15 : Addr} {od15 an15 : Option Addr} {sl15 : Array (Option Value)} {oc15 kV15 dc15 pm15 cd15 ct15 : Value}
    (a15 : PySem.W.nsIn K mainGlobals "_law_share" = some (some (.ref f15))) (l15 : K.lookup f15 = some ⟨oc15, od15, .func (PySem.W.fnOf "_law_share" "_law_share" (defArgs s__law_share) (defBody s__law_share) (defScope s__law_share) .none kV15 dc15 pm15 an15 cd15 ct15), sl15⟩) (c15 : PySem.W.codeIn K cd15 "_law_share" = true) (k15 : PySem.W.keepIn K (.ref f15) = true)
    {f16 : Addr} {od16 an16 : Option Addr} {sl16 : Array (Option Value)} {oc16 kV16 dc16 pm16 cd16 ct16 : Value}
    (a16 : PySem.W.nsIn K mainGlobals "_law_hang" = some (some (.ref f16))) (l16 : K.lookup f16 = some ⟨oc16, od16, .func (PySem.W.fnOf "_law_hang" "_law_hang" (defArgs s__law_hang) (defBody s__law_hang) (defScope s__law_hang) .none kV16 dc16 pm16 an16 cd16 ct16), sl16⟩) (c16 : PySem.W.codeIn K cd16 "_law_hang" = true) (k16 : PySem.W.keepIn K (.ref f16) = true)
    {f17 : Addr} {od17 an17 : Option Addr} {sl17 : Array (Option Value)} {oc17 kV17 dc17 pm17 cd17 ct17 : Value}
    (a17 : PySem.W.nsIn K mainGlobals "_law_levels" = some (some (.ref f17))) (l17 : K.lookup f17 = some ⟨oc17, od17, .func (PySem.W.fnOf "_law_levels" "_law_levels" (defArgs s__law_levels) (defBody s__law_levels) (defScope s__law_levels) .none kV17 dc17 pm17 an17 cd17 ct17), sl17⟩) (c17 : PySem.W.codeIn K cd17 "_law_levels" = true) (k17 : PySem.W.keepIn K (.ref f17) = true)
    {f18 : Addr} {od18 an18 : Option Addr} {sl18 : Array (Option Value)} {oc18 kV18 dc18 pm18 cd18 ct18 : Value}
    (a18 : PySem.W.nsIn K mainGlobals "_law_copy" = some (some (.ref f18))) (l18 : K.lookup f18 = some ⟨oc18, od18, .func (PySem.W.fnOf "_law_copy" "_law_copy" (defArgs s__law_copy) (defBody s__law_copy) (defScope s__law_copy) .none kV18 dc18 pm18 an18 cd18 ct18), sl18⟩) (c18 : PySem.W.codeIn K cd18 "_law_copy" = true) (k18 : PySem.W.keepIn K (.ref f18) = true)
    {f19 : Addr} {od19 an19 : Option Addr} {sl19 : Array (Option Value)} {oc19 kV19 dc19 pm19 cd19 ct19 : Value}
    (a19 : PySem.W.nsIn K mainGlobals "_law_same" = some (some (.ref f19))) (l19 : K.lookup f19 = some ⟨oc19, od19, .func (PySem.W.fnOf "_law_same" "_law_same" (defArgs s__law_same) (defBody s__law_same) (defScope s__law_same) .none kV19 dc19 pm19 an19 cd19 ct19), sl19⟩) (c19 : PySem.W.codeIn K cd19 "_law_same" = true) (k19 : PySem.W.keepIn K (.ref f19) = true)
    {f20 : Addr} {od20 an20 : Option Addr} {sl20 : Array (Option Value)} {oc20 kV20 dc20 pm20 cd20 ct20 : Value}
    (a20 : PySem.W.nsIn K mainGlobals "_law_core" = some (some (.ref f20))) (l20 : K.lookup f20 = some ⟨oc20, od20, .func (PySem.W.fnOf "_law_core" "_law_core" (defArgs s__law_core) (defBody s__law_core) (defScope s__law_core) .none kV20 dc20 pm20 an20 cd20 ct20), sl20⟩) (c20 : PySem.W.codeIn K cd20 "_law_core" = true) (k20 : PySem.W.keepIn K (.ref f20) = true)
    {f21 : Addr} {od21 an21 : Option Addr} {sl21 : Array (Option Value)} {oc21 kV21 dc21 pm21 cd21 ct21 : Value}
    (a21 : PySem.W.nsIn K mainGlobals "_law_are_rows" = some (some (.ref f21))) (l21 : K.lookup f21 = some ⟨oc21, od21, .func (PySem.W.fnOf "_law_are_rows" "_law_are_rows" (defArgs s__law_are_rows) (defBody s__law_are_rows) (defScope s__law_are_rows) .none kV21 dc21 pm21 an21 cd21 ct21), sl21⟩) (c21 : PySem.W.codeIn K cd21 "_law_are_rows" = true) (k21 : PySem.W.keepIn K (.ref f21) = true)
    {f22 : Addr} {od22 an22 : Option Addr} {sl22 : Array (Option Value)} {oc22 kV22 dc22 pm22 cd22 ct22 : Value}
    (a22 : PySem.W.nsIn K mainGlobals "_law_is_chain" = some (some (.ref f22))) (l22 : K.lookup f22 = some ⟨oc22, od22, .func (PySem.W.fnOf "_law_is_chain" "_law_is_chain" (defArgs s__law_is_chain) (defBody s__law_is_chain) (defScope s__law_is_chain) .none kV22 dc22 pm22 an22 cd22 ct22), sl22⟩) (c22 : PySem.W.codeIn K cd22 "_law_is_chain" = true) (k22 : PySem.W.keepIn K (.ref f22) = true)
    {f23 : Addr} {od23 an23 : Option Addr} {sl23 : Array (Option Value)} {oc23 kV23 dc23 pm23 cd23 ct23 : Value}
    (a23 : PySem.W.nsIn K mainGlobals "_law_are_steps" = some (some (.ref f23))) (l23 : K.lookup f23 = some ⟨oc23, od23, .func (PySem.W.fnOf "_law_are_steps" "_law_are_steps" (defArgs s__law_are_steps) (defBody s__law_are_steps) (defScope s__law_are_steps) .none kV23 dc23 pm23 an23 cd23 ct23), sl23⟩) (c23 : PySem.W.codeIn K cd23 "_law_are_steps" = true) (k23 : PySem.W.keepIn K (.ref f23) = true)
    {f24 : Addr} {od24 an24 : Option Addr} {sl24 : Array (Option Value)} {oc24 kV24 dc24 pm24 cd24 ct24 : Value}
    (a24 : PySem.W.nsIn K mainGlobals "_law_bent" = some (some (.ref f24))) (l24 : K.lookup f24 = some ⟨oc24, od24, .func (PySem.W.fnOf "_law_bent" "_law_bent" (defArgs s__law_bent) (defBody s__law_bent) (defScope s__law_bent) .none kV24 dc24 pm24 an24 cd24 ct24), sl24⟩) (c24 : PySem.W.codeIn K cd24 "_law_bent" = true) (k24 : PySem.W.keepIn K (.ref f24) = true)
    {f25 : Addr} {od25 an25 : Option Addr} {sl25 : Array (Option Value)} {oc25 kV25 dc25 pm25 cd25 ct25 : Value}
    (a25 : PySem.W.nsIn K mainGlobals "_law_moved_row" = some (some (.ref f25))) (l25 : K.lookup f25 = some ⟨oc25, od25, .func (PySem.W.fnOf "_law_moved_row" "_law_moved_row" (defArgs s__law_moved_row) (defBody s__law_moved_row) (defScope s__law_moved_row) .none kV25 dc25 pm25 an25 cd25 ct25), sl25⟩) (c25 : PySem.W.codeIn K cd25 "_law_moved_row" = true) (k25 : PySem.W.keepIn K (.ref f25) = true)
    {f26 : Addr} {od26 an26 : Option Addr} {sl26 : Array (Option Value)} {oc26 kV26 dc26 pm26 cd26 ct26 : Value}
    (a26 : PySem.W.nsIn K mainGlobals "_law_right" = some (some (.ref f26))) (l26 : K.lookup f26 = some ⟨oc26, od26, .func (PySem.W.fnOf "_law_right" "_law_right" (defArgs s__law_right) (defBody s__law_right) (defScope s__law_right) .none kV26 dc26 pm26 an26 cd26 ct26), sl26⟩) (c26 : PySem.W.codeIn K cd26 "_law_right" = true) (k26 : PySem.W.keepIn K (.ref f26) = true)
    {f27 : Addr} {od27 an27 : Option Addr} {sl27 : Array (Option Value)} {oc27 kV27 dc27 pm27 cd27 ct27 : Value}
    (a27 : PySem.W.nsIn K mainGlobals "law" = some (some (.ref f27))) (l27 : K.lookup f27 = some ⟨oc27, od27, .func (PySem.W.fnOf "law" "law" (defArgs s_law) (defBody s_law) (defScope s_law) .none kV27 dc27 pm27 an27 cd27 ct27), sl27⟩) (c27 : PySem.W.codeIn K cd27 "law" = true) (k27 : PySem.W.keepIn K (.ref f27) = true)
    (z_abs : PySem.W.nsIn K mainGlobals "abs" = some none)
    (z_all : PySem.W.nsIn K mainGlobals "all" = some none)
    (z_any : PySem.W.nsIn K mainGlobals "any" = some none)
    (z_bool : PySem.W.nsIn K mainGlobals "bool" = some none)
    (z_enumerate : PySem.W.nsIn K mainGlobals "enumerate" = some none)
    (z_int : PySem.W.nsIn K mainGlobals "int" = some none)
    (z_isinstance : PySem.W.nsIn K mainGlobals "isinstance" = some none)
    (z_len : PySem.W.nsIn K mainGlobals "len" = some none)
    (z_list : PySem.W.nsIn K mainGlobals "list" = some none)
    (z_max : PySem.W.nsIn K mainGlobals "max" = some none)
    (z_range : PySem.W.nsIn K mainGlobals "range" = some none)
    (z_repr : PySem.W.nsIn K mainGlobals "repr" = some none)
    (z_sorted : PySem.W.nsIn K mainGlobals "sorted" = some none)
    (z_str : PySem.W.nsIn K mainGlobals "str" = some none)
    (z_tuple : PySem.W.nsIn K mainGlobals "tuple" = some none)
    : Fx K mg where
  d_is_whole := ⟨_, _, fun_mk (st := s_is_whole) l0 c0 k0, PySem.W.mg_of X G a0, (fun_mk (st := s_is_whole) l0 c0 k0).binds (ps := ["value"]) fun _ _ _ _ _ _ us hl => match us, hl with | [_], _ => rfl⟩
  d_are_wholes := ⟨_, _, fun_mk (st := s_are_wholes) l1 c1 k1, PySem.W.mg_of X G a1, (fun_mk (st := s_are_wholes) l1 c1 k1).binds (ps := ["value"]) fun _ _ _ _ _ _ us hl => match us, hl with | [_], _ => rfl⟩
  d_are_between := ⟨_, _, fun_mk (st := s_are_between) l2 c2 k2, PySem.W.mg_of X G a2, (fun_mk (st := s_are_between) l2 c2 k2).binds (ps := ["value", "least", "most"]) fun _ _ _ _ _ _ us hl => match us, hl with | [_, _, _], _ => rfl⟩
  d_is_rising := ⟨_, _, fun_mk (st := s_is_rising) l3 c3 k3, PySem.W.mg_of X G a3, (fun_mk (st := s_is_rising) l3 c3 k3).binds (ps := ["numbers"]) fun _ _ _ _ _ _ us hl => match us, hl with | [_], _ => rfl⟩
  d_are_lists_of_wholes := ⟨_, _, fun_mk (st := s_are_lists_of_wholes) l4 c4 k4, PySem.W.mg_of X G a4, (fun_mk (st := s_are_lists_of_wholes) l4 c4 k4).binds (ps := ["value"]) fun _ _ _ _ _ _ us hl => match us, hl with | [_], _ => rfl⟩
  d_slots_of := ⟨_, _, fun_mk (st := s_slots_of) l5 c5 k5, PySem.W.mg_of X G a5, (fun_mk (st := s_slots_of) l5 c5 k5).binds (ps := ["row"]) fun _ _ _ _ _ _ us hl => match us, hl with | [_], _ => rfl⟩
  d_do_share := ⟨_, _, fun_mk (st := s_do_share) l6 c6 k6, PySem.W.mg_of X G a6, (fun_mk (st := s_do_share) l6 c6 k6).binds (ps := ["one", "other"]) fun _ _ _ _ _ _ us hl => match us, hl with | [_, _], _ => rfl⟩
  d_reads_for := ⟨_, _, fun_mk (st := s_reads_for) l7 c7 k7, PySem.W.mg_of X G a7, (fun_mk (st := s_reads_for) l7 c7 k7).binds (ps := ["one", "other"]) fun _ _ _ _ _ _ us hl => match us, hl with | [_, _], _ => rfl⟩
  d_hang_together := ⟨_, _, fun_mk (st := s_hang_together) l8 c8 k8, PySem.W.mg_of X G a8, (fun_mk (st := s_hang_together) l8 c8 k8).binds (ps := ["one", "other"]) fun _ _ _ _ _ _ us hl => match us, hl with | [_, _], _ => rfl⟩
  d_shows_chain := ⟨_, _, fun_mk (st := s_shows_chain) l9 c9 k9, PySem.W.mg_of X G a9, (fun_mk (st := s_shows_chain) l9 c9 k9).binds (ps := ["core", "chain"]) fun _ _ _ _ _ _ us hl => match us, hl with | [_, _], _ => rfl⟩
  d_shows_steps := ⟨_, _, fun_mk (st := s_shows_steps) l10 c10 k10, PySem.W.mg_of X G a10, (fun_mk (st := s_shows_steps) l10 c10 k10).binds (ps := ["core", "steps"]) fun _ _ _ _ _ _ us hl => match us, hl with | [_, _], _ => rfl⟩
  d__law_feed := ⟨_, _, fun_mk (st := s__law_feed) l11 c11 k11, PySem.W.mg_of X G a11, (fun_mk (st := s__law_feed) l11 c11 k11).binds (ps := ["script"]) fun _ _ _ _ _ _ us hl => match us, hl with | [_], _ => rfl⟩
  d__law_draw := ⟨_, _, fun_mk (st := s__law_draw) l12 c12 k12, PySem.W.mg_of X G a12, (fun_mk (st := s__law_draw) l12 c12 k12).binds (ps := ["feed", "many"]) fun _ _ _ _ _ _ us hl => match us, hl with | [_, _], _ => rfl⟩
  d__law_whole := ⟨_, _, fun_mk (st := s__law_whole) l13 c13 k13, PySem.W.mg_of X G a13, (fun_mk (st := s__law_whole) l13 c13 k13).binds (ps := ["value"]) fun _ _ _ _ _ _ us hl => match us, hl with | [_], _ => rfl⟩
  d__law_slots := ⟨_, _, fun_mk (st := s__law_slots) l14 c14 k14, PySem.W.mg_of X G a14, (fun_mk (st := s__law_slots) l14 c14 k14).binds (ps := ["row"]) fun _ _ _ _ _ _ us hl => match us, hl with | [_], _ => rfl⟩
  d__law_share := ⟨_, _, fun_mk (st := s__law_share) l15 c15 k15, PySem.W.mg_of X G a15, (fun_mk (st := s__law_share) l15 c15 k15).binds (ps := ["one", "other"]) fun _ _ _ _ _ _ us hl => match us, hl with | [_, _], _ => rfl⟩
  d__law_hang := ⟨_, _, fun_mk (st := s__law_hang) l16 c16 k16, PySem.W.mg_of X G a16, (fun_mk (st := s__law_hang) l16 c16 k16).binds (ps := ["one", "other"]) fun _ _ _ _ _ _ us hl => match us, hl with | [_, _], _ => rfl⟩
  d__law_levels := ⟨_, _, fun_mk (st := s__law_levels) l17 c17 k17, PySem.W.mg_of X G a17, (fun_mk (st := s__law_levels) l17 c17 k17).binds (ps := ["rows"]) fun _ _ _ _ _ _ us hl => match us, hl with | [_], _ => rfl⟩
  d__law_copy := ⟨_, _, fun_mk (st := s__law_copy) l18 c18 k18, PySem.W.mg_of X G a18, (fun_mk (st := s__law_copy) l18 c18 k18).binds (ps := ["core"]) fun _ _ _ _ _ _ us hl => match us, hl with | [_], _ => rfl⟩
  d__law_same := ⟨_, _, fun_mk (st := s__law_same) l19 c19 k19, PySem.W.mg_of X G a19, (fun_mk (st := s__law_same) l19 c19 k19).binds (ps := ["actual", "due"]) fun _ _ _ _ _ _ us hl => match us, hl with | [_, _], _ => rfl⟩
  d__law_core := ⟨_, _, fun_mk (st := s__law_core) l20 c20 k20, PySem.W.mg_of X G a20, (fun_mk (st := s__law_core) l20 c20 k20).binds (ps := ["feed", "ins", "wide", "most"]) fun _ _ _ _ _ _ us hl => match us, hl with | [_, _, _, _], _ => rfl⟩
  d__law_are_rows := ⟨_, _, fun_mk (st := s__law_are_rows) l21 c21 k21, PySem.W.mg_of X G a21, (fun_mk (st := s__law_are_rows) l21 c21 k21).binds (ps := ["many", "value"]) fun _ _ _ _ _ _ us hl => match us, hl with | [_, _], _ => rfl⟩
  d__law_is_chain := ⟨_, _, fun_mk (st := s__law_is_chain) l22 c22 k22, PySem.W.mg_of X G a22, (fun_mk (st := s__law_is_chain) l22 c22 k22).binds (ps := ["rows", "value"]) fun _ _ _ _ _ _ us hl => match us, hl with | [_, _], _ => rfl⟩
  d__law_are_steps := ⟨_, _, fun_mk (st := s__law_are_steps) l23 c23 k23, PySem.W.mg_of X G a23, (fun_mk (st := s__law_are_steps) l23 c23 k23).binds (ps := ["rows", "value"]) fun _ _ _ _ _ _ us hl => match us, hl with | [_, _], _ => rfl⟩
  d__law_bent := ⟨_, _, fun_mk (st := s__law_bent) l24 c24 k24, PySem.W.mg_of X G a24, (fun_mk (st := s__law_bent) l24 c24 k24).binds (ps := ["feed", "many", "value"]) fun _ _ _ _ _ _ us hl => match us, hl with | [_, _, _], _ => rfl⟩
  d__law_moved_row := ⟨_, _, fun_mk (st := s__law_moved_row) l25 c25 k25, PySem.W.mg_of X G a25, (fun_mk (st := s__law_moved_row) l25 c25 k25).binds (ps := ["feed", "steps"]) fun _ _ _ _ _ _ us hl => match us, hl with | [_, _], _ => rfl⟩
  d__law_right := ⟨_, _, fun_mk (st := s__law_right) l26 c26 k26, PySem.W.mg_of X G a26, (fun_mk (st := s__law_right) l26 c26 k26).binds (ps := ["feed", "core"]) fun _ _ _ _ _ _ us hl => match us, hl with | [_, _], _ => rfl⟩
  d_law := ⟨_, _, fun_mk (st := s_law) l27 c27 k27, PySem.W.mg_of X G a27, (fun_mk (st := s_law) l27 c27 k27).binds (ps := ["script"]) fun _ _ _ _ _ _ us hl => match us, hl with | [_], _ => rfl⟩
  z_abs := PySem.W.mg_none_of X G z_abs
  z_all := PySem.W.mg_none_of X G z_all
  z_any := PySem.W.mg_none_of X G z_any
  z_bool := PySem.W.mg_none_of X G z_bool
  z_enumerate := PySem.W.mg_none_of X G z_enumerate
  z_int := PySem.W.mg_none_of X G z_int
  z_isinstance := PySem.W.mg_none_of X G z_isinstance
  z_len := PySem.W.mg_none_of X G z_len
  z_list := PySem.W.mg_none_of X G z_list
  z_max := PySem.W.mg_none_of X G z_max
  z_range := PySem.W.mg_none_of X G z_range
  z_repr := PySem.W.mg_none_of X G z_repr
  z_sorted := PySem.W.mg_none_of X G z_sorted
  z_str := PySem.W.mg_none_of X G z_str
  z_tuple := PySem.W.mg_none_of X G z_tuple
theorem all_mk {l : PySem.W.OpenLaw} {w : World} {K : PySem.W.Frag} {h : Heap} {mg : Str → Option Value} {fa : Addr} (X : K.In h) (G : h.Ns mainGlobals mg) (hfa : mg "law" = some (.ref fa))
    {f0 : Addr} {od0 an0 : Option Addr} {sl0 : Array (Option Value)} {oc0 kV0 dc0 pm0 cd0 ct0 : Value}
    (a0 : PySem.W.nsIn K mainGlobals "is_whole" = some (some (.ref f0))) (l0 : K.lookup f0 = some ⟨oc0, od0, .func (PySem.W.fnOf "is_whole" "is_whole" (defArgs s_is_whole) (defBody s_is_whole) (defScope s_is_whole) .none kV0 dc0 pm0 an0 cd0 ct0), sl0⟩) (c0 : PySem.W.codeIn K cd0 "is_whole" = true) (k0 : PySem.W.keepIn K (.ref f0) = true)
    {f1 : Addr} {od1 an1 : Option Addr} {sl1 : Array (Option Value)} {oc1 kV1 dc1 pm1 cd1 ct1 : Value}
    (a1 : PySem.W.nsIn K mainGlobals "are_wholes" = some (some (.ref f1))) (l1 : K.lookup f1 = some ⟨oc1, od1, .func (PySem.W.fnOf "are_wholes" "are_wholes" (defArgs s_are_wholes) (defBody s_are_wholes) (defScope s_are_wholes) .none kV1 dc1 pm1 an1 cd1 ct1), sl1⟩) (c1 : PySem.W.codeIn K cd1 "are_wholes" = true) (k1 : PySem.W.keepIn K (.ref f1) = true)
    {f2 : Addr} {od2 an2 : Option Addr} {sl2 : Array (Option Value)} {oc2 kV2 dc2 pm2 cd2 ct2 : Value}
    (a2 : PySem.W.nsIn K mainGlobals "are_between" = some (some (.ref f2))) (l2 : K.lookup f2 = some ⟨oc2, od2, .func (PySem.W.fnOf "are_between" "are_between" (defArgs s_are_between) (defBody s_are_between) (defScope s_are_between) .none kV2 dc2 pm2 an2 cd2 ct2), sl2⟩) (c2 : PySem.W.codeIn K cd2 "are_between" = true) (k2 : PySem.W.keepIn K (.ref f2) = true)
    {f3 : Addr} {od3 an3 : Option Addr} {sl3 : Array (Option Value)} {oc3 kV3 dc3 pm3 cd3 ct3 : Value}
    (a3 : PySem.W.nsIn K mainGlobals "is_rising" = some (some (.ref f3))) (l3 : K.lookup f3 = some ⟨oc3, od3, .func (PySem.W.fnOf "is_rising" "is_rising" (defArgs s_is_rising) (defBody s_is_rising) (defScope s_is_rising) .none kV3 dc3 pm3 an3 cd3 ct3), sl3⟩) (c3 : PySem.W.codeIn K cd3 "is_rising" = true) (k3 : PySem.W.keepIn K (.ref f3) = true)
    {f4 : Addr} {od4 an4 : Option Addr} {sl4 : Array (Option Value)} {oc4 kV4 dc4 pm4 cd4 ct4 : Value}
    (a4 : PySem.W.nsIn K mainGlobals "are_lists_of_wholes" = some (some (.ref f4))) (l4 : K.lookup f4 = some ⟨oc4, od4, .func (PySem.W.fnOf "are_lists_of_wholes" "are_lists_of_wholes" (defArgs s_are_lists_of_wholes) (defBody s_are_lists_of_wholes) (defScope s_are_lists_of_wholes) .none kV4 dc4 pm4 an4 cd4 ct4), sl4⟩) (c4 : PySem.W.codeIn K cd4 "are_lists_of_wholes" = true) (k4 : PySem.W.keepIn K (.ref f4) = true)
    {f5 : Addr} {od5 an5 : Option Addr} {sl5 : Array (Option Value)} {oc5 kV5 dc5 pm5 cd5 ct5 : Value}
    (a5 : PySem.W.nsIn K mainGlobals "slots_of" = some (some (.ref f5))) (l5 : K.lookup f5 = some ⟨oc5, od5, .func (PySem.W.fnOf "slots_of" "slots_of" (defArgs s_slots_of) (defBody s_slots_of) (defScope s_slots_of) .none kV5 dc5 pm5 an5 cd5 ct5), sl5⟩) (c5 : PySem.W.codeIn K cd5 "slots_of" = true) (k5 : PySem.W.keepIn K (.ref f5) = true)
    {f6 : Addr} {od6 an6 : Option Addr} {sl6 : Array (Option Value)} {oc6 kV6 dc6 pm6 cd6 ct6 : Value}
    (a6 : PySem.W.nsIn K mainGlobals "do_share" = some (some (.ref f6))) (l6 : K.lookup f6 = some ⟨oc6, od6, .func (PySem.W.fnOf "do_share" "do_share" (defArgs s_do_share) (defBody s_do_share) (defScope s_do_share) .none kV6 dc6 pm6 an6 cd6 ct6), sl6⟩) (c6 : PySem.W.codeIn K cd6 "do_share" = true) (k6 : PySem.W.keepIn K (.ref f6) = true)
    {f7 : Addr} {od7 an7 : Option Addr} {sl7 : Array (Option Value)} {oc7 kV7 dc7 pm7 cd7 ct7 : Value}
    (a7 : PySem.W.nsIn K mainGlobals "reads_for" = some (some (.ref f7))) (l7 : K.lookup f7 = some ⟨oc7, od7, .func (PySem.W.fnOf "reads_for" "reads_for" (defArgs s_reads_for) (defBody s_reads_for) (defScope s_reads_for) .none kV7 dc7 pm7 an7 cd7 ct7), sl7⟩) (c7 : PySem.W.codeIn K cd7 "reads_for" = true) (k7 : PySem.W.keepIn K (.ref f7) = true)
    {f8 : Addr} {od8 an8 : Option Addr} {sl8 : Array (Option Value)} {oc8 kV8 dc8 pm8 cd8 ct8 : Value}
    (a8 : PySem.W.nsIn K mainGlobals "hang_together" = some (some (.ref f8))) (l8 : K.lookup f8 = some ⟨oc8, od8, .func (PySem.W.fnOf "hang_together" "hang_together" (defArgs s_hang_together) (defBody s_hang_together) (defScope s_hang_together) .none kV8 dc8 pm8 an8 cd8 ct8), sl8⟩) (c8 : PySem.W.codeIn K cd8 "hang_together" = true) (k8 : PySem.W.keepIn K (.ref f8) = true)
    {f9 : Addr} {od9 an9 : Option Addr} {sl9 : Array (Option Value)} {oc9 kV9 dc9 pm9 cd9 ct9 : Value}
    (a9 : PySem.W.nsIn K mainGlobals "shows_chain" = some (some (.ref f9))) (l9 : K.lookup f9 = some ⟨oc9, od9, .func (PySem.W.fnOf "shows_chain" "shows_chain" (defArgs s_shows_chain) (defBody s_shows_chain) (defScope s_shows_chain) .none kV9 dc9 pm9 an9 cd9 ct9), sl9⟩) (c9 : PySem.W.codeIn K cd9 "shows_chain" = true) (k9 : PySem.W.keepIn K (.ref f9) = true)
    {f10 : Addr} {od10 an10 : Option Addr} {sl10 : Array (Option Value)} {oc10 kV10 dc10 pm10 cd10 ct10 : Value}
    (a10 : PySem.W.nsIn K mainGlobals "shows_steps" = some (some (.ref f10))) (l10 : K.lookup f10 = some ⟨oc10, od10, .func (PySem.W.fnOf "shows_steps" "shows_steps" (defArgs s_shows_steps) (defBody s_shows_steps) (defScope s_shows_steps) .none kV10 dc10 pm10 an10 cd10 ct10), sl10⟩) (c10 : PySem.W.codeIn K cd10 "shows_steps" = true) (k10 : PySem.W.keepIn K (.ref f10) = true)
    {f11 : Addr} {od11 an11 : Option Addr} {sl11 : Array (Option Value)} {oc11 kV11 dc11 pm11 cd11 ct11 : Value}
    (a11 : PySem.W.nsIn K mainGlobals "_law_feed" = some (some (.ref f11))) (l11 : K.lookup f11 = some ⟨oc11, od11, .func (PySem.W.fnOf "_law_feed" "_law_feed" (defArgs s__law_feed) (defBody s__law_feed) (defScope s__law_feed) .none kV11 dc11 pm11 an11 cd11 ct11), sl11⟩) (c11 : PySem.W.codeIn K cd11 "_law_feed" = true) (k11 : PySem.W.keepIn K (.ref f11) = true)
    {f12 : Addr} {od12 an12 : Option Addr} {sl12 : Array (Option Value)} {oc12 kV12 dc12 pm12 cd12 ct12 : Value}
    (a12 : PySem.W.nsIn K mainGlobals "_law_draw" = some (some (.ref f12))) (l12 : K.lookup f12 = some ⟨oc12, od12, .func (PySem.W.fnOf "_law_draw" "_law_draw" (defArgs s__law_draw) (defBody s__law_draw) (defScope s__law_draw) .none kV12 dc12 pm12 an12 cd12 ct12), sl12⟩) (c12 : PySem.W.codeIn K cd12 "_law_draw" = true) (k12 : PySem.W.keepIn K (.ref f12) = true)
    {f13 : Addr} {od13 an13 : Option Addr} {sl13 : Array (Option Value)} {oc13 kV13 dc13 pm13 cd13 ct13 : Value}
    (a13 : PySem.W.nsIn K mainGlobals "_law_whole" = some (some (.ref f13))) (l13 : K.lookup f13 = some ⟨oc13, od13, .func (PySem.W.fnOf "_law_whole" "_law_whole" (defArgs s__law_whole) (defBody s__law_whole) (defScope s__law_whole) .none kV13 dc13 pm13 an13 cd13 ct13), sl13⟩) (c13 : PySem.W.codeIn K cd13 "_law_whole" = true) (k13 : PySem.W.keepIn K (.ref f13) = true)
    {f14 : Addr} {od14 an14 : Option Addr} {sl14 : Array (Option Value)} {oc14 kV14 dc14 pm14 cd14 ct14 : Value}
    (a14 : PySem.W.nsIn K mainGlobals "_law_slots" = some (some (.ref f14))) (l14 : K.lookup f14 = some ⟨oc14, od14, .func (PySem.W.fnOf "_law_slots" "_law_slots" (defArgs s__law_slots) (defBody s__law_slots) (defScope s__law_slots) .none kV14 dc14 pm14 an14 cd14 ct14), sl14⟩) (c14 : PySem.W.codeIn K cd14 "_law_slots" = true) (k14 : PySem.W.keepIn K (.ref f14) = true)
    {f15 : Addr} {od15 an15 : Option Addr} {sl15 : Array (Option Value)} {oc15 kV15 dc15 pm15 cd15 ct15 : Value}
    (a15 : PySem.W.nsIn K mainGlobals "_law_share" = some (some (.ref f15))) (l15 : K.lookup f15 = some ⟨oc15, od15, .func (PySem.W.fnOf "_law_share" "_law_share" (defArgs s__law_share) (defBody s__law_share) (defScope s__law_share) .none kV15 dc15 pm15 an15 cd15 ct15), sl15⟩) (c15 : PySem.W.codeIn K cd15 "_law_share" = true) (k15 : PySem.W.keepIn K (.ref f15) = true)
    {f16 : Addr} {od16 an16 : Option Addr} {sl16 : Array (Option Value)} {oc16 kV16 dc16 pm16 cd16 ct16 : Value}
    (a16 : PySem.W.nsIn K mainGlobals "_law_hang" = some (some (.ref f16))) (l16 : K.lookup f16 = some ⟨oc16, od16, .func (PySem.W.fnOf "_law_hang" "_law_hang" (defArgs s__law_hang) (defBody s__law_hang) (defScope s__law_hang) .none kV16 dc16 pm16 an16 cd16 ct16), sl16⟩) (c16 : PySem.W.codeIn K cd16 "_law_hang" = true) (k16 : PySem.W.keepIn K (.ref f16) = true)
    {f17 : Addr} {od17 an17 : Option Addr} {sl17 : Array (Option Value)} {oc17 kV17 dc17 pm17 cd17 ct17 : Value}
    (a17 : PySem.W.nsIn K mainGlobals "_law_levels" = some (some (.ref f17))) (l17 : K.lookup f17 = some ⟨oc17, od17, .func (PySem.W.fnOf "_law_levels" "_law_levels" (defArgs s__law_levels) (defBody s__law_levels) (defScope s__law_levels) .none kV17 dc17 pm17 an17 cd17 ct17), sl17⟩) (c17 : PySem.W.codeIn K cd17 "_law_levels" = true) (k17 : PySem.W.keepIn K (.ref f17) = true)
    {f18 : Addr} {od18 an18 : Option Addr} {sl18 : Array (Option Value)} {oc18 kV18 dc18 pm18 cd18 ct18 : Value}
    (a18 : PySem.W.nsIn K mainGlobals "_law_copy" = some (some (.ref f18))) (l18 : K.lookup f18 = some ⟨oc18, od18, .func (PySem.W.fnOf "_law_copy" "_law_copy" (defArgs s__law_copy) (defBody s__law_copy) (defScope s__law_copy) .none kV18 dc18 pm18 an18 cd18 ct18), sl18⟩) (c18 : PySem.W.codeIn K cd18 "_law_copy" = true) (k18 : PySem.W.keepIn K (.ref f18) = true)
    {f19 : Addr} {od19 an19 : Option Addr} {sl19 : Array (Option Value)} {oc19 kV19 dc19 pm19 cd19 ct19 : Value}
    (a19 : PySem.W.nsIn K mainGlobals "_law_same" = some (some (.ref f19))) (l19 : K.lookup f19 = some ⟨oc19, od19, .func (PySem.W.fnOf "_law_same" "_law_same" (defArgs s__law_same) (defBody s__law_same) (defScope s__law_same) .none kV19 dc19 pm19 an19 cd19 ct19), sl19⟩) (c19 : PySem.W.codeIn K cd19 "_law_same" = true) (k19 : PySem.W.keepIn K (.ref f19) = true)
    {f20 : Addr} {od20 an20 : Option Addr} {sl20 : Array (Option Value)} {oc20 kV20 dc20 pm20 cd20 ct20 : Value}
    (a20 : PySem.W.nsIn K mainGlobals "_law_core" = some (some (.ref f20))) (l20 : K.lookup f20 = some ⟨oc20, od20, .func (PySem.W.fnOf "_law_core" "_law_core" (defArgs s__law_core) (defBody s__law_core) (defScope s__law_core) .none kV20 dc20 pm20 an20 cd20 ct20), sl20⟩) (c20 : PySem.W.codeIn K cd20 "_law_core" = true) (k20 : PySem.W.keepIn K (.ref f20) = true)
    {f21 : Addr} {od21 an21 : Option Addr} {sl21 : Array (Option Value)} {oc21 kV21 dc21 pm21 cd21 ct21 : Value}
    (a21 : PySem.W.nsIn K mainGlobals "_law_are_rows" = some (some (.ref f21))) (l21 : K.lookup f21 = some ⟨oc21, od21, .func (PySem.W.fnOf "_law_are_rows" "_law_are_rows" (defArgs s__law_are_rows) (defBody s__law_are_rows) (defScope s__law_are_rows) .none kV21 dc21 pm21 an21 cd21 ct21), sl21⟩) (c21 : PySem.W.codeIn K cd21 "_law_are_rows" = true) (k21 : PySem.W.keepIn K (.ref f21) = true)
    {f22 : Addr} {od22 an22 : Option Addr} {sl22 : Array (Option Value)} {oc22 kV22 dc22 pm22 cd22 ct22 : Value}
    (a22 : PySem.W.nsIn K mainGlobals "_law_is_chain" = some (some (.ref f22))) (l22 : K.lookup f22 = some ⟨oc22, od22, .func (PySem.W.fnOf "_law_is_chain" "_law_is_chain" (defArgs s__law_is_chain) (defBody s__law_is_chain) (defScope s__law_is_chain) .none kV22 dc22 pm22 an22 cd22 ct22), sl22⟩) (c22 : PySem.W.codeIn K cd22 "_law_is_chain" = true) (k22 : PySem.W.keepIn K (.ref f22) = true)
    {f23 : Addr} {od23 an23 : Option Addr} {sl23 : Array (Option Value)} {oc23 kV23 dc23 pm23 cd23 ct23 : Value}
    (a23 : PySem.W.nsIn K mainGlobals "_law_are_steps" = some (some (.ref f23))) (l23 : K.lookup f23 = some ⟨oc23, od23, .func (PySem.W.fnOf "_law_are_steps" "_law_are_steps" (defArgs s__law_are_steps) (defBody s__law_are_steps) (defScope s__law_are_steps) .none kV23 dc23 pm23 an23 cd23 ct23), sl23⟩) (c23 : PySem.W.codeIn K cd23 "_law_are_steps" = true) (k23 : PySem.W.keepIn K (.ref f23) = true)
    {f24 : Addr} {od24 an24 : Option Addr} {sl24 : Array (Option Value)} {oc24 kV24 dc24 pm24 cd24 ct24 : Value}
    (a24 : PySem.W.nsIn K mainGlobals "_law_bent" = some (some (.ref f24))) (l24 : K.lookup f24 = some ⟨oc24, od24, .func (PySem.W.fnOf "_law_bent" "_law_bent" (defArgs s__law_bent) (defBody s__law_bent) (defScope s__law_bent) .none kV24 dc24 pm24 an24 cd24 ct24), sl24⟩) (c24 : PySem.W.codeIn K cd24 "_law_bent" = true) (k24 : PySem.W.keepIn K (.ref f24) = true)
    {f25 : Addr} {od25 an25 : Option Addr} {sl25 : Array (Option Value)} {oc25 kV25 dc25 pm25 cd25 ct25 : Value}
    (a25 : PySem.W.nsIn K mainGlobals "_law_moved_row" = some (some (.ref f25))) (l25 : K.lookup f25 = some ⟨oc25, od25, .func (PySem.W.fnOf "_law_moved_row" "_law_moved_row" (defArgs s__law_moved_row) (defBody s__law_moved_row) (defScope s__law_moved_row) .none kV25 dc25 pm25 an25 cd25 ct25), sl25⟩) (c25 : PySem.W.codeIn K cd25 "_law_moved_row" = true) (k25 : PySem.W.keepIn K (.ref f25) = true)
    {f26 : Addr} {od26 an26 : Option Addr} {sl26 : Array (Option Value)} {oc26 kV26 dc26 pm26 cd26 ct26 : Value}
    (a26 : PySem.W.nsIn K mainGlobals "_law_right" = some (some (.ref f26))) (l26 : K.lookup f26 = some ⟨oc26, od26, .func (PySem.W.fnOf "_law_right" "_law_right" (defArgs s__law_right) (defBody s__law_right) (defScope s__law_right) .none kV26 dc26 pm26 an26 cd26 ct26), sl26⟩) (c26 : PySem.W.codeIn K cd26 "_law_right" = true) (k26 : PySem.W.keepIn K (.ref f26) = true)
    {f27 : Addr} {od27 an27 : Option Addr} {sl27 : Array (Option Value)} {oc27 kV27 dc27 pm27 cd27 ct27 : Value}
    (a27 : PySem.W.nsIn K mainGlobals "law" = some (some (.ref f27))) (l27 : K.lookup f27 = some ⟨oc27, od27, .func (PySem.W.fnOf "law" "law" (defArgs s_law) (defBody s_law) (defScope s_law) .none kV27 dc27 pm27 an27 cd27 ct27), sl27⟩) (c27 : PySem.W.codeIn K cd27 "law" = true) (k27 : PySem.W.keepIn K (.ref f27) = true)
    (z_abs : PySem.W.nsIn K mainGlobals "abs" = some none)
    (z_all : PySem.W.nsIn K mainGlobals "all" = some none)
    (z_any : PySem.W.nsIn K mainGlobals "any" = some none)
    (z_bool : PySem.W.nsIn K mainGlobals "bool" = some none)
    (z_enumerate : PySem.W.nsIn K mainGlobals "enumerate" = some none)
    (z_int : PySem.W.nsIn K mainGlobals "int" = some none)
    (z_isinstance : PySem.W.nsIn K mainGlobals "isinstance" = some none)
    (z_len : PySem.W.nsIn K mainGlobals "len" = some none)
    (z_list : PySem.W.nsIn K mainGlobals "list" = some none)
    (z_max : PySem.W.nsIn K mainGlobals "max" = some none)
    (z_range : PySem.W.nsIn K mainGlobals "range" = some none)
    (z_repr : PySem.W.nsIn K mainGlobals "repr" = some none)
    (z_sorted : PySem.W.nsIn K mainGlobals "sorted" = some none)
    (z_str : PySem.W.nsIn K mainGlobals "str" = some none)
    (z_tuple : PySem.W.nsIn K mainGlobals "tuple" = some none)
    : ∃ fd : FuncData, (∀ (s : Shared) (v : Value), BindsTo s fd ⟨[v], []⟩ [("script", v)]) ∧ ∀ base : Heap, K.In base → base.Ns mainGlobals mg → FnOkG l.prog w K mg base 11 fa fd ["script"] (spD K false f_law) := by
  have W := fx_mk X G a0 l0 c0 k0 a1 l1 c1 k1 a2 l2 c2 k2 a3 l3 c3 k3 a4 l4 c4 k4 a5 l5 c5 k5 a6 l6 c6 k6 a7 l7 c7 k7 a8 l8 c8 k8 a9 l9 c9 k9 a10 l10 c10 k10 a11 l11 c11 k11 a12 l12 c12 k12 a13 l13 c13 k13 a14 l14 c14 k14 a15 l15 c15 k15 a16 l16 c16 k16 a17 l17 c17 k17 a18 l18 c18 k18 a19 l19 c19 k19 a20 l20 c20 k20 a21 l21 c21 k21 a22 l22 c22 k22 a23 l23 c23 k23 a24 l24 c24 k24 a25 l25 c25 k25 a26 l26 c26 k26 a27 l27 c27 k27 z_abs z_all z_any z_bool z_enumerate z_int z_isinstance z_len z_list z_max z_range z_repr z_sorted z_str z_tuple
  have e := hfa.symm.trans (PySem.W.mg_of X G a27)
  cases e
  refine ⟨PySem.W.fnOf "law" "law" (defArgs s_law) (defBody s_law) (defScope s_law) .none kV27 dc27 pm27 an27 cd27 ct27, fun s v => .of_eq rfl, fun base _ _ => ?_⟩
  exact run_law W (fun_mk (st := s_law) l27 c27 k27)
end K71

open PySem PySem.W PyProof.Rows DL
set_option maxHeartbeats 0 in
theorem PySem.Challenge.cw_steadywires_k71_whole_judges_of_steps_holds : PySem.Challenge.rw_steadywires_k71_whole_judges_of_steps.Holds := by
  w_on; o_law; k_head; (case hw => w_witness2)
  k_fill
  refine DL.walkG (l := PySem.Challenge.rw_steadywires_k71_whole_judges_of_steps) (n := 63) (k := 11) (x := "script") (sp := fun w => spD _ false K71.f_law) rfl (by decide) rfl ⟨rfl, by decide, by decide⟩ (fun w h Y => PySem.W.kIn_of Y) ?F (fun _ H a ns hl hS => law_sp K71.plain _ H a ns hl hS _)
  case F =>
    intro w mg fa h KX G hmg
    refine' K71.all_mk KX G hmg ?a0 ?l0 ?c0 ?k0 ?a1 ?l1 ?c1 ?k1 ?a2 ?l2 ?c2 ?k2 ?a3 ?l3 ?c3 ?k3 ?a4 ?l4 ?c4 ?k4 ?a5 ?l5 ?c5 ?k5 ?a6 ?l6 ?c6 ?k6 ?a7 ?l7 ?c7 ?k7 ?a8 ?l8 ?c8 ?k8 ?a9 ?l9 ?c9 ?k9 ?a10 ?l10 ?c10 ?k10 ?a11 ?l11 ?c11 ?k11 ?a12 ?l12 ?c12 ?k12 ?a13 ?l13 ?c13 ?k13 ?a14 ?l14 ?c14 ?k14 ?a15 ?l15 ?c15 ?k15 ?a16 ?l16 ?c16 ?k16 ?a17 ?l17 ?c17 ?k17 ?a18 ?l18 ?c18 ?k18 ?a19 ?l19 ?c19 ?k19 ?a20 ?l20 ?c20 ?k20 ?a21 ?l21 ?c21 ?k21 ?a22 ?l22 ?c22 ?k22 ?a23 ?l23 ?c23 ?k23 ?a24 ?l24 ?c24 ?k24 ?a25 ?l25 ?c25 ?k25 ?a26 ?l26 ?c26 ?k26 ?a27 ?l27 ?c27 ?k27 ?z_abs ?z_all ?z_any ?z_bool ?z_enumerate ?z_int ?z_isinstance ?z_len ?z_list ?z_max ?z_range ?z_repr ?z_sorted ?z_str ?z_tuple
    (case a0 => k_is); (case l0 => k_is); (case c0 => k_is); (case k0 => k_is); (case a1 => k_is); (case l1 => k_is); (case c1 => k_is); (case k1 => k_is); (case a2 => k_is); (case l2 => k_is); (case c2 => k_is); (case k2 => k_is); (case a3 => k_is); (case l3 => k_is); (case c3 => k_is); (case k3 => k_is); (case a4 => k_is); (case l4 => k_is); (case c4 => k_is); (case k4 => k_is); (case a5 => k_is); (case l5 => k_is); (case c5 => k_is); (case k5 => k_is); (case a6 => k_is); (case l6 => k_is); (case c6 => k_is); (case k6 => k_is); (case a7 => k_is); (case l7 => k_is); (case c7 => k_is); (case k7 => k_is); (case a8 => k_is); (case l8 => k_is); (case c8 => k_is); (case k8 => k_is); (case a9 => k_is); (case l9 => k_is); (case c9 => k_is); (case k9 => k_is); (case a10 => k_is); (case l10 => k_is); (case c10 => k_is); (case k10 => k_is); (case a11 => k_is); (case l11 => k_is); (case c11 => k_is); (case k11 => k_is); (case a12 => k_is); (case l12 => k_is); (case c12 => k_is); (case k12 => k_is); (case a13 => k_is); (case l13 => k_is); (case c13 => k_is); (case k13 => k_is); (case a14 => k_is); (case l14 => k_is); (case c14 => k_is); (case k14 => k_is); (case a15 => k_is); (case l15 => k_is); (case c15 => k_is); (case k15 => k_is); (case a16 => k_is); (case l16 => k_is); (case c16 => k_is); (case k16 => k_is); (case a17 => k_is); (case l17 => k_is); (case c17 => k_is); (case k17 => k_is); (case a18 => k_is); (case l18 => k_is); (case c18 => k_is); (case k18 => k_is); (case a19 => k_is); (case l19 => k_is); (case c19 => k_is); (case k19 => k_is); (case a20 => k_is); (case l20 => k_is); (case c20 => k_is); (case k20 => k_is); (case a21 => k_is); (case l21 => k_is); (case c21 => k_is); (case k21 => k_is); (case a22 => k_is); (case l22 => k_is); (case c22 => k_is); (case k22 => k_is); (case a23 => k_is); (case l23 => k_is); (case c23 => k_is); (case k23 => k_is); (case a24 => k_is); (case l24 => k_is); (case c24 => k_is); (case k24 => k_is); (case a25 => k_is); (case l25 => k_is); (case c25 => k_is); (case k25 => k_is); (case a26 => k_is); (case l26 => k_is); (case c26 => k_is); (case k26 => k_is); (case a27 => k_is); (case l27 => k_is); (case c27 => k_is); (case k27 => k_is); (case z_abs => k_is); (case z_all => k_is); (case z_any => k_is); (case z_bool => k_is); (case z_enumerate => k_is); (case z_int => k_is); (case z_isinstance => k_is); (case z_len => k_is); (case z_list => k_is); (case z_max => k_is); (case z_range => k_is); (case z_repr => k_is); (case z_sorted => k_is); (case z_str => k_is); (case z_tuple => k_is)
