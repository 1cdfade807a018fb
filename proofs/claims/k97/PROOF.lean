import PyProof.Rows.All
import Wide.All
import OpenK.AllK
import Wide.FinOn
import HandS.ForMost
import HandS.TupAny
import HandS.TupMul
import HandS.IsInst
import HandS.Style
import HandS.Zip
import HandS.Wide
import HandS.Conv
import HandS.Walk
import HandS.More
import HandS.Star
import HandS.Iter
import KE.DataEq
import KE.DataFind
import KE.DataCmp
import KE.DataMinMax
import KE.SortData
import KE.GoesEnum
import HandS.Head0
import HandS.Head1
import HandS.Head2
import HandS.HeadHook1
import HandS.HeadHook2
import HandS.HeadEnd
import HandS.Defaults
import PySem.Challenge.RW_mendgarage_k97_whole_services_as_wheels
set_option Elab.async false
set_option linter.all false
set_option maxRecDepth 100000
set_option maxHeartbeats 4000000
/-! Pd1: values as data (PyData), who holds which list, evaluation without an address in sight: the core. -/
namespace Pd
open PySem PySem.Spec PyProof.Rows L2

abbrev D := PyData

/-! ### heaps that keep what may be read -/
structure Sm (H H' : Hp) : Prop where
  rd : ∀ a u, Rd H a u → Rd H' a u
  ls : ∀ a xs, H a = some (.lst xs) → H' a = some (.lst xs)
theorem Sm.refl (H : Hp) : Sm H H := ⟨fun _ _ h => h, fun _ _ h => h⟩
theorem Sm.trans {H H1 H2 : Hp} (a : Sm H H1) (b : Sm H1 H2) : Sm H H2 := ⟨fun x u h => b.rd x u (a.rd x u h), fun x u h => b.ls x u (a.ls x u h)⟩
theorem rdSame {H H' : Hp} (e : Same H H') {a : Addr} {u : HO} (h : Rd H a u) : Rd H' a u := by
  rcases h with h | ⟨o, h⟩
  · exact .inl (e _ _ h)
  · exact .inr ⟨o, e _ _ h⟩
theorem smOf {H H' : Hp} (e : Same H H') : Sm H H' := ⟨fun _ _ h => rdSame e h, fun _ _ h => e _ _ h⟩
theorem sameNew {H : Hp} {p : Addr} (h : H p = none) (o : HO) : Same H (upd H p o) := fun b u q => by rw [upd_ne (ne_of_none q h)]; exact q
theorem Sm.dom {H H' : Hp} (e : Sm H H') {a : Addr} (h : H' a = none) : H a = none := by
  cases q : H a with
  | none => rfl
  | some o =>
    rcases e.rd a o (.inl q) with r | ⟨o', r⟩ <;> (rw [h] at r; cases r)
theorem Sm.sqt {K : PySem.W.Frag} {H H' : Hp} (e : Sm H H') {a : Addr} {xs : List V} (h : SqT K H a xs) : SqT K H' a xs := by
  rcases h with h | h
  · exact .inl (e.rd _ _ h)
  · exact .inr h
/-- an address that H does not know may change -/
theorem Sm.mut {B H : Hp} (e : Sm B H) {p : Addr} (h : B p = none) (o : HO) : Sm B (upd H p o) := by
  have ne : ∀ a o', B a = some o' → a ≠ p := fun a o' q => ne_of_none q h
  refine ⟨fun a u r => ?_, fun a xs r => by rw [upd_ne (ne _ _ r)]; exact e.ls _ _ r⟩
  have na : a ≠ p := by rcases r with r | ⟨o', r⟩ <;> exact ne _ _ r
  rcases e.rd a u r with q | ⟨o', q⟩
  · exact .inl (by rw [upd_ne na]; exact q)
  · exact .inr ⟨o', by rw [upd_ne na]; exact q⟩
theorem Sm.free {H H' : Hp} (e : Same H H') {a : Addr} (h : H' a = none) : H a = none := (smOf e).dom h

/-! ### what stands for which data -/
def kD : Key → D
  | .inl i => .int i
  | .inr x => .str x
/-- a dict's keys and values -/
inductive DicV : HO → List D → List V → Prop
  | k (kvs : List (Key × V)) : DicV (.dK kvs) (kvs.map fun p => kD p.1) (kvs.map fun p => p.2)
  | t (kvs : List (List Key × V)) : DicV (.dT kvs) (.none :: kvs.map fun p => .tuple (p.1.map kD)) (.non :: kvs.map fun p => p.2)
mutual
inductive Rep (K : PySem.W.Frag) (H : Hp) : V → D → Prop
  | non : Rep K H .non .none
  | bl (b : Bool) : Rep K H (.bl b) (.bool b)
  | int (i : Int) : Rep K H (.int i) (.int i)
  | str (x : Str) : Rep K H (.str x) (.str x)
  | lst {a : Addr} {xs : List V} {ds : List D} : H a = some (.lst xs) → RepL K H xs ds → Rep K H (.ref a) (.list ds)
  | tup {a : Addr} {xs : List V} {ds : List D} : SqT K H a xs → RepL K H xs ds → Rep K H (.ref a) (.tuple ds)
  | dic {a : Addr} {u : HO} {ks : List D} {xs : List V} {ds : List D} {es : List (D × D)} : Rd H a u → DicV u ks xs → RepL K H xs ds → es = ks.zip ds → Rep K H (.ref a) (.dict es)
  | scr {a : Addr} {xs : List V} {ds : List D} : SqL K H a xs → RepL K H xs ds → Rep K H (.ref a) (.dict [(.bool true, .list ds)])
inductive RepL (K : PySem.W.Frag) (H : Hp) : List V → List D → Prop
  | nil : RepL K H [] []
  | cons {v : V} {vs : List V} {d : D} {ds : List D} : Rep K H v d → RepL K H vs ds → RepL K H (v :: vs) (d :: ds)
end
/-! .. the same, with the lists and dicts in it: fp -/
mutual
inductive Rp (K : PySem.W.Frag) (H : Hp) : V → D → List Addr → Prop
  | non : Rp K H .non .none []
  | bl (b : Bool) : Rp K H (.bl b) (.bool b) []
  | int (i : Int) : Rp K H (.int i) (.int i) []
  | str (x : Str) : Rp K H (.str x) (.str x) []
  | lst {a : Addr} {xs : List V} {ds : List D} {fp : List Addr} : H a = some (.lst xs) → RpL K H xs ds fp → Rp K H (.ref a) (.list ds) (a :: fp)
  | tup {a : Addr} {xs : List V} {ds : List D} {fp : List Addr} : SqT K H a xs → RpL K H xs ds fp → Rp K H (.ref a) (.tuple ds) fp
  | dic {a : Addr} {u : HO} {ks : List D} {xs : List V} {ds : List D} {es : List (D × D)} {fp : List Addr} : H a = some u → DicV u ks xs → RpL K H xs ds fp → es = ks.zip ds → Rp K H (.ref a) (.dict es) (a :: fp)
inductive RpL (K : PySem.W.Frag) (H : Hp) : List V → List D → List Addr → Prop
  | nil : RpL K H [] [] []
  | cons {v : V} {vs : List V} {d : D} {ds : List D} {f g : List Addr} : Rp K H v d f → RpL K H vs ds g → RpL K H (v :: vs) (d :: ds) (f ++ g)
end
section
variable {K : PySem.W.Frag} {H H' : Hp}
mutual
theorem Rep.mono (e : Sm H H') : ∀ {v : V} {d : D}, Rep K H v d → Rep K H' v d
  | _, _, .non => .non
  | _, _, .bl b => .bl b
  | _, _, .int i => .int i
  | _, _, .str x => .str x
  | _, _, .lst h r => .lst (e.ls _ _ h) (RepL.mono e r)
  | _, _, .tup h r => .tup (e.sqt h) (RepL.mono e r)
  | _, _, .dic h k r q => .dic (e.rd _ _ h) k (RepL.mono e r) q
  | _, _, .scr h r => .scr (h.imp (e.rd _ _) id) (RepL.mono e r)
theorem RepL.mono (e : Sm H H') : ∀ {vs : List V} {ds : List D}, RepL K H vs ds → RepL K H' vs ds
  | _, _, .nil => .nil
  | _, _, .cons r t => .cons (Rep.mono e r) (RepL.mono e t)
end
mutual
theorem Rp.rep : ∀ {v : V} {d : D} {fp : List Addr}, Rp K H v d fp → Rep K H v d
  | _, _, _, .non => .non
  | _, _, _, .bl b => .bl b
  | _, _, _, .int i => .int i
  | _, _, _, .str x => .str x
  | _, _, _, .lst h r => .lst h (RpL.rep r)
  | _, _, _, .tup h r => .tup h (RpL.rep r)
  | _, _, _, .dic h k r q => .dic (.inl h) k (RpL.rep r) q
theorem RpL.rep : ∀ {vs : List V} {ds : List D} {fp : List Addr}, RpL K H vs ds fp → RepL K H vs ds
  | _, _, _, .nil => .nil
  | _, _, _, .cons r t => .cons (Rp.rep r) (RpL.rep t)
end
mutual
/-- what is at fp stays, and the tuples: the data stay -/
theorem Rp.keep (ht : ∀ a xs, SqT K H a xs → SqT K H' a xs) : ∀ {v : V} {d : D} {fp : List Addr}, Rp K H v d fp → (∀ a ∈ fp, H' a = H a) → Rp K H' v d fp
  | _, _, _, .non, _ => .non
  | _, _, _, .bl b, _ => .bl b
  | _, _, _, .int i, _ => .int i
  | _, _, _, .str x, _ => .str x
  | _, _, _, .lst h r, k => .lst (by rw [k _ List.mem_cons_self]; exact h) (RpL.keep ht r fun a ha => k a (List.mem_cons_of_mem _ ha))
  | _, _, _, .tup h r, k => .tup (ht _ _ h) (RpL.keep ht r k)
  | _, _, _, .dic h q r z, k => .dic (by rw [k _ List.mem_cons_self]; exact h) q (RpL.keep ht r fun a ha => k a (List.mem_cons_of_mem _ ha)) z
theorem RpL.keep (ht : ∀ a xs, SqT K H a xs → SqT K H' a xs) : ∀ {vs : List V} {ds : List D} {fp : List Addr}, RpL K H vs ds fp → (∀ a ∈ fp, H' a = H a) → RpL K H' vs ds fp
  | _, _, _, .nil, _ => .nil
  | _, _, _, .cons r t, k => .cons (Rp.keep ht r fun a ha => k a (List.mem_append_left _ ha)) (RpL.keep ht t fun a ha => k a (List.mem_append_right _ ha))
end
mutual
theorem Rp.there : ∀ {v : V} {d : D} {fp : List Addr}, Rp K H v d fp → ∀ a ∈ fp, H a ≠ none
  | _, _, _, .non, _, z => nomatch z
  | _, _, _, .bl b, _, z => nomatch z
  | _, _, _, .int i, _, z => nomatch z
  | _, _, _, .str x, _, z => nomatch z
  | _, _, _, .lst h r, a, z => by
    rcases List.mem_cons.mp z with rfl | z
    · rw [h]; exact fun q => nomatch q
    · exact RpL.there r a z
  | _, _, _, .tup h r, a, z => RpL.there r a z
  | _, _, _, .dic h q r e, a, z => by
    rcases List.mem_cons.mp z with rfl | z
    · rw [h]; exact fun q => nomatch q
    · exact RpL.there r a z
theorem RpL.there : ∀ {vs : List V} {ds : List D} {fp : List Addr}, RpL K H vs ds fp → ∀ a ∈ fp, H a ≠ none
  | _, _, _, .nil, _, z => nomatch z
  | _, _, _, .cons r t, a, z => by
    rcases List.mem_append.mp z with z | z
    · exact Rp.there r a z
    · exact RpL.there t a z
end
theorem Rp.same (e : Same H H') {v : V} {d : D} {fp : List Addr} (r : Rp K H v d fp) : Rp K H' v d fp := by
  refine r.keep (fun _ _ h => (smOf e).sqt h) fun a ha => ?_
  have := r.there a ha
  cases q : H a with
  | none => exact absurd q this
  | some o => exact e _ _ q
theorem RpL.same (e : Same H H') {v : List V} {d : List D} {fp : List Addr} (r : RpL K H v d fp) : RpL K H' v d fp := by
  refine r.keep (fun _ _ h => (smOf e).sqt h) fun a ha => ?_
  have := r.there a ha
  cases q : H a with
  | none => exact absurd q this
  | some o => exact e _ _ q
theorem RepL.length : ∀ {vs : List V} {ds : List D}, RepL K H vs ds → vs.length = ds.length
  | _, _, .nil => rfl
  | _, _, .cons _ t => by simp [RepL.length t]
theorem RepL.get : ∀ {vs : List V} {ds : List D} {i : Nat} {v : V}, RepL K H vs ds → vs[i]? = some v → ∃ d, ds[i]? = some d ∧ Rep K H v d
  | _, _, _, _, .nil, h => by simp at h
  | _, _, 0, _, .cons r t, h => by simp at h; subst h; exact ⟨_, rfl, r⟩
  | _, _, i + 1, _, .cons r t, h => by
    obtain ⟨d, e, q⟩ := RepL.get (i := i) t (by simpa using h)
    exact ⟨d, by simpa using e, q⟩
theorem RepL.getD : ∀ {vs : List V} {ds : List D} {i : Nat} {d : D}, RepL K H vs ds → ds[i]? = some d → ∃ v, vs[i]? = some v ∧ Rep K H v d
  | _, _, _, _, .nil, h => by simp at h
  | _, _, 0, _, .cons r t, h => by simp at h; subst h; exact ⟨_, rfl, r⟩
  | _, _, i + 1, _, .cons r t, h => by
    obtain ⟨d, e, q⟩ := RepL.getD (i := i) t (by simpa using h)
    exact ⟨d, by simpa using e, q⟩
theorem RepL.append : ∀ {vs ws : List V} {ds es : List D}, RepL K H vs ds → RepL K H ws es → RepL K H (vs ++ ws) (ds ++ es)
  | _, _, _, _, .nil, s => s
  | _, _, _, _, .cons r t, s => .cons r (RepL.append t s)
theorem RepL.take : ∀ {vs : List V} {ds : List D} (n : Nat), RepL K H vs ds → RepL K H (vs.take n) (ds.take n)
  | _, _, 0, _ => by simpa using .nil
  | _, _, _ + 1, .nil => by simpa using .nil
  | _, _, n + 1, .cons r t => .cons r (RepL.take n t)
theorem RepL.drop : ∀ {vs : List V} {ds : List D} (n : Nat), RepL K H vs ds → RepL K H (vs.drop n) (ds.drop n)
  | _, _, 0, r => r
  | _, _, _ + 1, .nil => .nil
  | _, _, n + 1, .cons r t => RepL.drop n t
theorem RepL.reverse : ∀ {vs : List V} {ds : List D}, RepL K H vs ds → RepL K H vs.reverse ds.reverse
  | _, _, .nil => .nil
  | _, _, .cons r t => by
    rw [List.reverse_cons, List.reverse_cons]
    exact (RepL.reverse t).append (.cons r .nil)
theorem RepL.rep : ∀ {vs : List V} {ds : List D}, RepL K H vs ds → ∀ k : Nat, RepL K H (List.replicate k vs).flatten (List.replicate k ds).flatten
  | _, _, _, 0 => .nil
  | _, _, r, k + 1 => by
    rw [List.replicate_succ, List.replicate_succ, List.flatten_cons, List.flatten_cons]
    exact r.append (r.rep k)

/-! ### data without a list or a dict in it -/
mutual
def frozen : D → Bool
  | .none => true
  | .bool _ => true
  | .int _ => true
  | .str _ => true
  | .list _ => false
  | .tuple ds => frozenL ds
  | .dict _ => false
def frozenL : List D → Bool
  | [] => true
  | d :: ds => frozen d && frozenL ds
end
mutual
theorem Rep.frz : ∀ {v : V} {d : D}, Rep K H v d → frozen d = true → Rp K H v d []
  | _, _, .non, _ => .non
  | _, _, .bl b, _ => .bl b
  | _, _, .int i, _ => .int i
  | _, _, .str x, _ => .str x
  | _, _, .lst h r, z => by simp [frozen] at z
  | _, _, .tup h r, z => .tup h (RepL.frz r (by simpa [frozen] using z))
  | _, _, .dic h k r q, z => by simp [frozen] at z
  | _, _, .scr h r, z => by simp [frozen] at z
theorem RepL.frz : ∀ {vs : List V} {ds : List D}, RepL K H vs ds → frozenL ds = true → RpL K H vs ds []
  | _, _, .nil, _ => .nil
  | _, _, .cons r t, z => by
    simp only [frozenL, Bool.and_eq_true] at z
    have q := RpL.cons (Rep.frz r z.1) (RepL.frz t z.2)
    simpa using q
end
theorem RpL.append : ∀ {vs ws : List V} {ds es : List D} {f g : List Addr}, RpL K H vs ds f → RpL K H ws es g → RpL K H (vs ++ ws) (ds ++ es) (f ++ g)
  | _, _, _, _, _, _, .nil, s => s
  | _, _, _, _, _, _, .cons r t, s => by
    rw [List.append_assoc]
    exact .cons r (RpL.append t s)
theorem RpL.length {vs : List V} {ds : List D} {f : List Addr} (r : RpL K H vs ds f) : vs.length = ds.length := r.rep.length
end
theorem frozenL_append (a b : List D) : frozenL (a ++ b) = (frozenL a && frozenL b) := by
  induction a with
  | nil => simp [frozenL]
  | cons d ds ih => simp [frozenL, ih, Bool.and_assoc]
theorem frozenL_all (a : List D) : frozenL a = a.all frozen := by
  induction a with
  | nil => rfl
  | cons d ds ih => simp [frozenL, ih]

/-! ### the names' values -/
inductive Slot where
  | no
  | ow (d : D)
  | bo (d : D)
  | io (d : D)
abbrev En := List Slot
def Slot.val : Slot → Option D
  | .no => none
  | .ow d => some d
  | .bo d => some d
  | .io d => some d
def get (ε : En) (i : Nat) : Option D := (ε[i]?).bind Slot.val
structure OkR (K : PySem.W.Frag) (ε : En) (σ : L2.St) (H : Hp) : Prop where
  len : ε.length = σ.length
  at_ : ∀ i d, get ε i = some d → ∃ v, σ[i]? = some (some v) ∧ Rep K H v d
theorem OkR.mono {K : PySem.W.Frag} {ε : En} {σ : L2.St} {H H' : Hp} (o : OkR K ε σ H) (e : Sm H H') : OkR K ε σ H' := ⟨o.len, fun i d h => by
  obtain ⟨v, q, r⟩ := o.at_ i d h
  exact ⟨v, q, r.mono e⟩⟩
theorem OkR.same {K : PySem.W.Frag} {ε : En} {σ : L2.St} {H H' : Hp} (o : OkR K ε σ H) (e : Same H H') : OkR K ε σ H' := o.mono (smOf e)

/-- a new thing: all lists in it are new -/
def New (K : PySem.W.Frag) (H H' : Hp) (v : V) (d : D) : Prop := ∃ fp, Rp K H' v d fp ∧ fp.Nodup ∧ ∀ a ∈ fp, H a = none
def NewL (K : PySem.W.Frag) (H H' : Hp) (vs : List V) (ds : List D) : Prop := ∃ fp, RpL K H' vs ds fp ∧ fp.Nodup ∧ ∀ a ∈ fp, H a = none
theorem New.rep {K : PySem.W.Frag} {H H' : Hp} {v : V} {d : D} (n : New K H H' v d) : Rep K H' v d := let ⟨_, r, _⟩ := n; r.rep
theorem NewL.rep {K : PySem.W.Frag} {H H' : Hp} {v : List V} {d : List D} (n : NewL K H H' v d) : RepL K H' v d := let ⟨_, r, _⟩ := n; r.rep
theorem New.frz {K : PySem.W.Frag} {H H' : Hp} {v : V} {d : D} (r : Rep K H' v d) (h : frozen d = true) : New K H H' v d := ⟨[], r.frz h, .nil, fun _ z => nomatch z⟩
theorem New.back {K : PySem.W.Frag} {H H1 H2 : Hp} {v : V} {d : D} (e : Same H H1) (n : New K H1 H2 v d) : New K H H2 v d := by
  obtain ⟨fp, r, nd, f⟩ := n
  exact ⟨fp, r, nd, fun a ha => Sm.free e (f a ha)⟩
theorem New.on {K : PySem.W.Frag} {H H1 H2 : Hp} {v : V} {d : D} (n : New K H H1 v d) (e : Same H1 H2) : New K H H2 v d := by
  obtain ⟨fp, r, nd, f⟩ := n
  exact ⟨fp, r.same e, nd, f⟩
theorem NewL.back {K : PySem.W.Frag} {H H1 H2 : Hp} {v : List V} {d : List D} (e : Same H H1) (n : NewL K H1 H2 v d) : NewL K H H2 v d := by
  obtain ⟨fp, r, nd, f⟩ := n
  exact ⟨fp, r, nd, fun a ha => Sm.free e (f a ha)⟩
theorem NewL.cons {K : PySem.W.Frag} {H H1 H2 : Hp} {v : V} {d : D} {vs : List V} {ds : List D} (n : New K H H1 v d) (e : Same H H1) (m : NewL K H1 H2 vs ds) (e2 : Same H1 H2) : NewL K H H2 (v :: vs) (d :: ds) := by
  obtain ⟨fp, r, nd, f⟩ := n
  obtain ⟨fq, r2, nd2, f2⟩ := m
  refine ⟨fp ++ fq, .cons (r.same e2) r2, List.nodup_append.mpr ⟨nd, nd2, fun a ha b hb z => ?_⟩, fun a ha => ?_⟩
  · subst z
    exact r.there a ha (f2 a hb)
  · rcases List.mem_append.mp ha with ha | ha
    · exact f a ha
    · exact Sm.free e (f2 a ha)
/-- a new list | tuple of new things -/
theorem New.lst {K : PySem.W.Frag} {H H1 : Hp} {vs : List V} {ds : List D} {p : Addr} (m : NewL K H H1 vs ds) (e : Same H H1) (hp : H1 p = none) : New K H (upd H1 p (.lst vs)) (.ref p) (.list ds) := by
  obtain ⟨fq, r2, nd2, f2⟩ := m
  refine ⟨p :: fq, .lst upd_same (r2.same (sameNew hp _)), List.nodup_cons.mpr ⟨fun z => r2.there p z hp, nd2⟩, fun a ha => ?_⟩
  rcases List.mem_cons.mp ha with rfl | ha
  · exact Sm.free e hp
  · exact f2 a ha
theorem New.tup {K : PySem.W.Frag} {H H1 : Hp} {vs : List V} {ds : List D} {p : Addr} (m : NewL K H H1 vs ds) (hp : H1 p = none) : New K H (upd H1 p (.tup vs)) (.ref p) (.tuple ds) := by
  obtain ⟨fq, r2, nd2, f2⟩ := m
  exact ⟨fq, .tup (SqT.of upd_same) (r2.same (sameNew hp _)), nd2, f2⟩
theorem NewL.frz {K : PySem.W.Frag} {H H' : Hp} {v : List V} {d : List D} (r : RepL K H' v d) (h : frozenL d = true) : NewL K H H' v d := ⟨[], r.frz h, .nil, fun _ z => nomatch z⟩

/-! ### an expression's value -/
abbrev FE := En → Option D
def PSo (K : PySem.W.Frag) (t : TE) (f : FE) : Prop := ∀ (ε : En) (σ : L2.St) (H : Hp) (d : D) (Q : VK), OkR K ε σ H → f ε = some d → (∀ v H', Same H H' → Rep K H' v d → Q v H') → t σ H Q
def FSo (K : PySem.W.Frag) (t : TE) (f : FE) : Prop := ∀ (ε : En) (σ : L2.St) (H : Hp) (d : D) (Q : VK), OkR K ε σ H → f ε = some d → (∀ v H', Same H H' → New K H H' v d → Q v H') → t σ H Q
def TSo (K : PySem.W.Frag) (t : TT) (f : En → Option Bool) : Prop := ∀ (ε : En) (σ : L2.St) (H : Hp) (b : Bool) (Q : Bool → Hp → Prop), OkR K ε σ H → f ε = some b → (∀ H', Same H H' → Q b H') → t σ H Q
def ASo (K : PySem.W.Frag) (t : TA) (f : En → Option (List D)) : Prop := ∀ (ε : En) (σ : L2.St) (H : Hp) (ds : List D) (Q : List V → Hp → Prop), OkR K ε σ H → f ε = some ds → (∀ vs H', Same H H' → RepL K H' vs ds → Q vs H') → t σ H Q
def ANo (K : PySem.W.Frag) (t : TA) (f : En → Option (List D)) : Prop := ∀ (ε : En) (σ : L2.St) (H : Hp) (ds : List D) (Q : List V → Hp → Prop), OkR K ε σ H → f ε = some ds → (∀ vs H', Same H H' → NewL K H H' vs ds → Q vs H') → t σ H Q
structure PP (X : Cx) (e : Expr) (t : TE) (f : FE) : Prop where
  pe : PE X e t
  so : PSo X.K t f
structure PF (X : Cx) (e : Expr) (t : TE) (f : FE) : Prop where
  pe : PE X e t
  so : FSo X.K t f
structure PTt (X : Cx) (e : Expr) (t : TT) (f : En → Option Bool) : Prop where
  pt : PT X e t
  so : TSo X.K t f
structure PWt (X : Cx) (e : Expr) (t : TT) (f : En → Option Bool) : Prop where
  pw : PW X e t
  so : TSo X.K t f
structure PAr (X : Cx) (es : List Expr) (t : TA) (f : En → Option (List D)) : Prop where
  pa : PA X es t
  so : ASo X.K t f
structure PAn (X : Cx) (es : List Expr) (t : TA) (f : En → Option (List D)) : Prop where
  pa : PA X es t
  so : ANo X.K t f
theorem PF.pp {X : Cx} {e : Expr} {t : TE} {f : FE} (h : PF X e t f) : PP X e t f := ⟨h.pe, fun ε σ H d Q o q k => h.so ε σ H d Q o q fun v H' s n => k v H' s n.rep⟩
def eFrz (f : FE) : FE := fun ε => (f ε).bind fun d => if frozen d then some d else none
theorem PP.frz {X : Cx} {e : Expr} {t : TE} {f : FE} (h : PP X e t f) : PF X e t (eFrz f) := by
  refine ⟨h.pe, fun ε σ H d Q o q k => ?_⟩
  unfold eFrz at q
  cases z : f ε with
  | none => rw [z] at q; cases q
  | some d' =>
    rw [z] at q
    simp only [Option.bind_some] at q
    split at q
    · rename_i hz
      cases q
      exact h.so ε σ H _ Q o z fun v H' s r => k v H' s (New.frz r hz)
    · cases q
theorem PWt.pt {X : Cx} {e : Expr} {t : TT} {f : En → Option Bool} (h : PWt X e t f) : PTt X e t f := ⟨h.pw.pt, h.so⟩

/-! ### rules by values -/
def OpV (K : PySem.W.Frag) (r : R2) (g : D → D → Option D) : Prop := ∀ (x y : V) (d e z : D) (H : Hp) (Q : VK), Rep K H x d → Rep K H y e → g d e = some z → (∀ v H', Same H H' → New K H H' v z → Q v H') → r x y H Q
def UnV (K : PySem.W.Frag) (r : V → Hp → VK → Prop) (g : D → Option D) : Prop := ∀ (x : V) (d z : D) (H : Hp) (Q : VK), Rep K H x d → g d = some z → (∀ v H', Same H H' → New K H H' v z → Q v H') → r x H Q
def CallV (K : PySem.W.Frag) (r : List V → Hp → VK → Prop) (g : List D → Option D) : Prop := ∀ (vs : List V) (ds : List D) (z : D) (H : Hp) (Q : VK), RepL K H vs ds → g ds = some z → (∀ v H', Same H H' → New K H H' v z → Q v H') → r vs H Q
structure OpP (X : Cx) (fn : Value → Value → Sem Value) (r : R2) (g : D → D → Option D) : Prop where
  op : OpR X fn r
  v : OpV X.K r g
structure UnP (X : Cx) (fn : Value → Sem Value) (r : V → Hp → VK → Prop) (g : D → Option D) : Prop where
  op : UnR X fn r
  v : UnV X.K r g
structure CallP (X : Cx) (fn : Value) (r : List V → Hp → VK → Prop) (g : List D → Option D) : Prop where
  op : CallR X fn r
  v : CallV X.K r g
/-- an op that gives a plain value and leaves the heap -/
theorem newInt {K : PySem.W.Frag} {H : Hp} {i : Int} : New K H H (.int i) (.int i) := ⟨[], .int i, .nil, fun _ z => nomatch z⟩
theorem newBl {K : PySem.W.Frag} {H : Hp} {b : Bool} : New K H H (.bl b) (.bool b) := ⟨[], .bl b, .nil, fun _ z => nomatch z⟩
theorem newStr {K : PySem.W.Frag} {H : Hp} {x : Str} : New K H H (.str x) (.str x) := ⟨[], .str x, .nil, fun _ z => nomatch z⟩
theorem newNon {K : PySem.W.Frag} {H : Hp} : New K H H .non .none := ⟨[], .non, .nil, fun _ z => nomatch z⟩

/-! ### names, constants, operators -/
section
variable {X : Cx} {a b c : Expr} {ta tb tc : TE} {fa fb fc : FE} {pos : Pos}
def eVar (i : Nat) : FE := fun ε => get ε i
def eC (d : D) : FE := fun _ => some d
def e1 (g : D → Option D) (f : FE) : FE := fun ε => (f ε).bind g
def e2 (g : D → D → Option D) (f h : FE) : FE := fun ε => (f ε).bind fun x => (h ε).bind fun y => g x y
theorem pv' (i : Nat) {x : Str} {pos : Pos} (hN : X.N[i]? = some x := by rfl) (hv : Vis X.env.scope x := by first | exact Or.inl rfl | exact Or.inr (Or.inl rfl) | exact Or.inr (Or.inr rfl)) (hd : (x == ("__debug__" : Str)) = false := by decide)
    (hcd : (x == ("__classdict__" : Str)) = false := by decide) : PP X (.Name x pos) (tVar i) (eVar i) := by
  refine ⟨pe_var hN hv hd hcd, fun ε σ H d Q o q k => ?_⟩
  obtain ⟨v, e, r⟩ := o.at_ i d q
  exact ⟨v, e, k v H (Same.refl H) r⟩
theorem pk_int {i : Int} {j : Nat} : PF X (.Constant (.int i) j pos) (tC (.int i)) (eC (.int i)) := ⟨pe_int, fun ε σ H d Q o q k => by cases q; exact k _ H (Same.refl H) newInt⟩
theorem pk_bl {i : Bool} {j : Nat} : PF X (.Constant (.bool i) j pos) (tC (.bl i)) (eC (.bool i)) := ⟨pe_bl, fun ε σ H d Q o q k => by cases q; exact k _ H (Same.refl H) newBl⟩
theorem pk_str {i : Str} {j : Nat} : PF X (.Constant (.str i) j pos) (tC (.str i)) (eC (.str i)) := ⟨pe_str, fun ε σ H d Q o q k => by cases q; exact k _ H (Same.refl H) newStr⟩
theorem pk_non {j : Nat} : PF X (.Constant .none j pos) (tC .non) (eC .none) := ⟨pe_non, fun ε σ H d Q o q k => by cases q; exact k _ H (Same.refl H) newNon⟩
theorem bindSome {α β : Type} {o : Option α} {k : α → Option β} {z : β} (h : o.bind k = some z) : ∃ x, o = some x ∧ k x = some z := by
  cases o with
  | none => cases h
  | some x => exact ⟨x, rfl, h⟩
theorem so_op {K : PySem.W.Frag} {r : R2} {g : D → D → Option D} (o : OpV K r g) (ha : PSo K ta fa) (hb : PSo K tb fb) : FSo K (tOp r ta tb) (e2 g fa fb) := by
  intro ε σ H d Q ok q k
  obtain ⟨x, q1, q⟩ := bindSome q
  obtain ⟨y, q2, q3⟩ := bindSome q
  refine ha ε σ H x _ ok q1 fun v H1 s1 r1 => ?_
  refine hb ε σ H1 y _ (ok.same s1) q2 fun u H2 s2 r2 => ?_
  exact o v u x y d H2 Q (r1.mono (smOf s2)) r2 q3 fun w H3 s3 n => k w H3 ((s1.trans s2).trans s3) (n.back (s1.trans s2))
theorem pf_op {op : Operator} {r : R2} {g : D → D → Option D} (o : OpP X (binaryOp op) r g) (ha : PP X a ta fa) (hb : PP X b tb fb) : PF X (.BinOp a op b pos) (tOp r ta tb) (e2 g fa fb) :=
  ⟨pe_op o.op ha.pe hb.pe, so_op o.v ha.so hb.so⟩
theorem pf_cmp {op : CmpOp} {r : R2} {g : D → D → Option D} (o : OpP X (compareOp op) r g) (ha : PP X a ta fa) (hb : PP X b tb fb) (hm : behindInMarks op b = false := by first | exact nomark _ | rfl) : PF X (.Compare a [op] [b] pos) (tOp r ta tb) (e2 g fa fb) :=
  ⟨pe_cmpR o.op ha.pe hb.pe hm, so_op o.v ha.so hb.so⟩
theorem so_un {K : PySem.W.Frag} {r : V → Hp → VK → Prop} {g : D → Option D} (o : UnV K r g) (ha : PSo K ta fa) : FSo K (tUn r ta) (e1 g fa) := by
  intro ε σ H d Q ok q k
  obtain ⟨x, q1, q3⟩ := bindSome q
  refine ha ε σ H x _ ok q1 fun v H1 s1 r1 => ?_
  exact o v x d H1 Q r1 q3 fun w H3 s3 n => k w H3 (s1.trans s3) (n.back s1)
theorem pf_un {op : UnaryOp} {r : V → Hp → VK → Prop} {g : D → Option D} (o : UnP X (unaryOp op) r g) (ha : PP X a ta fa) : PF X (.UnaryOp op a pos) (tUn r ta) (e1 g fa) :=
  ⟨pe_un o.op ha.pe, so_un o.v ha.so⟩
/-! arguments -/
def aNil : En → Option (List D) := fun _ => some []
def aCons (f : FE) (g : En → Option (List D)) : En → Option (List D) := fun ε => (f ε).bind fun x => (g ε).bind fun xs => some (x :: xs)
variable {es : List Expr} {t : TA} {fs : En → Option (List D)}
theorem ar_nil : PAr X [] tNil aNil := ⟨pa_nil, fun ε σ H d Q o q k => by cases q; exact k [] H (Same.refl H) .nil⟩
theorem ar_cons (ha : PP X a ta fa) (hr : PAr X es t fs) (hs : starEach (a :: es) X.env = (false, eval a X.env) :: starEach es X.env := by rfl) : PAr X (a :: es) (tCons ta t) (aCons fa fs) := by
  refine ⟨pa_cons ha.pe hr.pa hs, fun ε σ H d Q ok q k => ?_⟩
  obtain ⟨x, q1, q⟩ := bindSome q
  obtain ⟨xs, q2, q3⟩ := bindSome q
  cases q3
  refine ha.so ε σ H x _ ok q1 fun v H1 s1 r1 => ?_
  exact hr.so ε σ H1 xs _ (ok.same s1) q2 fun vs H2 s2 r2 => k _ H2 (s1.trans s2) (.cons (r1.mono (smOf s2)) r2)
theorem an_nil : PAn X [] tNil aNil := ⟨pa_nil, fun ε σ H d Q o q k => by cases q; exact k [] H (Same.refl H) ⟨[], .nil, .nil, fun _ z => nomatch z⟩⟩
theorem an_cons (ha : PF X a ta fa) (hr : PAn X es t fs) (hs : starEach (a :: es) X.env = (false, eval a X.env) :: starEach es X.env := by rfl) : PAn X (a :: es) (tCons ta t) (aCons fa fs) := by
  refine ⟨pa_cons ha.pe hr.pa hs, fun ε σ H d Q ok q k => ?_⟩
  obtain ⟨x, q1, q⟩ := bindSome q
  obtain ⟨xs, q2, q3⟩ := bindSome q
  cases q3
  refine ha.so ε σ H x _ ok q1 fun v H1 s1 r1 => ?_
  exact hr.so ε σ H1 xs _ (ok.same s1) q2 fun vs H2 s2 r2 => k _ H2 (s1.trans s2) (NewL.cons r1 s1 r2 s2)
def eTup (fs : En → Option (List D)) : FE := fun ε => (fs ε).bind fun xs => if xs.length ≤ 1000 then some (.tuple xs) else none
def eLst (fs : En → Option (List D)) : FE := fun ε => (fs ε).bind fun xs => if xs.length ≤ 1000 then some (.list xs) else none
theorem small1000' {n : Nat} (h : n ≤ 1000) : n ≤ sizeLine := Nat.le_of_lt (small1000 h)
theorem pf_tup {x1} (h : PAn X es t fs) : PF X (.Tuple es x1 pos) (tTup t) (eTup fs) := by
  refine ⟨pe_tup h.pa, fun ε σ H d Q ok q k => ?_⟩
  obtain ⟨xs, q1, q⟩ := bindSome q
  by_cases hl : xs.length ≤ 1000
  · rw [if_pos hl] at q; cases q
    refine h.so ε σ H xs _ ok q1 fun vs H1 s1 n => ⟨?_, fun p hp => k _ _ (s1.trans (sameNew hp _)) (New.tup n hp)⟩
    rw [n.rep.length]; exact small1000' hl
  · rw [if_neg hl] at q; cases q
theorem pp_tup {x1} (h : PAr X es t fs) : PP X (.Tuple es x1 pos) (tTup t) (eTup fs) := by
  refine ⟨pe_tup h.pa, fun ε σ H d Q ok q k => ?_⟩
  obtain ⟨xs, q1, q⟩ := bindSome q
  by_cases hl : xs.length ≤ 1000
  · rw [if_pos hl] at q; cases q
    refine h.so ε σ H xs _ ok q1 fun vs H1 s1 n => ⟨?_, fun p hp => k _ _ (s1.trans (sameNew hp _)) (.tup (SqT.of upd_same) (n.mono (smOf (sameNew hp _))))⟩
    rw [n.length]; exact small1000' hl
  · rw [if_neg hl] at q; cases q
theorem pf_lst (h : PAn X es t fs) : PF X (.List es pos) (tLst t) (eLst fs) := by
  refine ⟨pe_lst h.pa, fun ε σ H d Q ok q k => ?_⟩
  obtain ⟨xs, q1, q⟩ := bindSome q
  by_cases hl : xs.length ≤ 1000
  · rw [if_pos hl] at q; cases q
    refine h.so ε σ H xs _ ok q1 fun vs H1 s1 n => ⟨?_, fun p hp => k _ _ (s1.trans (sameNew hp _)) (New.lst n s1 hp)⟩
    rw [n.rep.length]; exact small1000' hl
  · rw [if_neg hl] at q; cases q
theorem pp_lst (h : PAr X es t fs) : PP X (.List es pos) (tLst t) (eLst fs) := by
  refine ⟨pe_lst h.pa, fun ε σ H d Q ok q k => ?_⟩
  obtain ⟨xs, q1, q⟩ := bindSome q
  by_cases hl : xs.length ≤ 1000
  · rw [if_pos hl] at q; cases q
    refine h.so ε σ H xs _ ok q1 fun vs H1 s1 n => ⟨?_, fun p hp => k _ _ (s1.trans (sameNew hp _)) (.lst upd_same (n.mono (smOf (sameNew hp _))))⟩
    rw [n.length]; exact small1000' hl
  · rw [if_neg hl] at q; cases q
end
end Pd

set_option Elab.async false
set_option linter.all false
set_option maxRecDepth 100000
set_option maxHeartbeats 4000000
/-! Pd2: the operators by values. -/
namespace Pd
open PySem PySem.Spec PyProof.Rows L2

/-! ### from Rep to what the library reads -/
section
variable {K : PySem.W.Frag} {H : Hp}
mutual
theorem Rep.dp : ∀ {v : V} {d : D}, Rep K H v d → d.plain = true → Dp K H v d
  | _, _, .non, _ => .non
  | _, _, .bl b, _ => .bl b
  | _, _, .int i, _ => .int i
  | _, _, .str x, _ => .str x
  | _, _, .lst h r, z => .lst (SqL.of h) (RepL.dp r (by simpa [PyData.plain] using z))
  | _, _, .tup h r, z => .tup h (RepL.dp r (by simpa [PyData.plain] using z))
  | _, _, .dic h k r q, z => by simp [PyData.plain] at z
  | _, _, .scr h r, z => by simp [PyData.plain] at z
theorem RepL.dp : ∀ {vs : List V} {ds : List D}, RepL K H vs ds → PyData.plainAll ds = true → DpAll K H vs ds
  | _, _, .nil, _ => .nil
  | _, _, .cons r t, z => by
    simp only [PyData.plainAll, Bool.and_eq_true] at z
    exact .cons (Rep.dp r z.1) (RepL.dp t z.2)
end
end
mutual
theorem frozen_plain : ∀ {d : D}, frozen d = true → d.plain = true
  | .none, _ => rfl
  | .bool _, _ => rfl
  | .int _, _ => rfl
  | .str _, _ => rfl
  | .list _, z => by simp [frozen] at z
  | .tuple ds, z => by simp only [PyData.plain]; exact frozenL_plain (by simpa [frozen] using z)
  | .dict _, z => by simp [frozen] at z
theorem frozenL_plain : ∀ {ds : List D}, frozenL ds = true → PyData.plainAll ds = true
  | [], _ => rfl
  | d :: ds, z => by
    simp only [frozenL, Bool.and_eq_true] at z
    simp only [PyData.plainAll, Bool.and_eq_true]
    exact ⟨frozen_plain z.1, frozenL_plain z.2⟩
end
section
variable {X : Cx} {pins : List (Addr × Obj)} {σ : L2.St} {H : Hp} {s : Shared}
theorem Rep.reads (I : Inv X pins σ H s) {v : V} {d : D} {u : Value} (h : Rep X.K H v d) (r : RelV v u) (hp : d.plain = true) : ∃ as, Reads s.heap u d as := Dp.reads I d v u (h.dp hp) r
theorem RepL.reads (I : Inv X pins σ H s) {v : List V} {d : List D} {u : List Value} (h : RepL X.K H v d) (r : Vals v u) (hp : PyData.plainAll d = true) : ∃ as, ReadsAll s.heap u d as := Dp.readsAll I d v u (h.dp hp) r
end
theorem OpR.or {X : Cx} {f : Value → Value → Sem Value} {r r' : R2} (h : OpR X f r) (h' : OpR X f r') : OpR X f (fun x y H Q => r x y H Q ∨ r' x y H Q) := by
  intro pins s σ H x y v u Q I rx ry q
  rcases q with q | q
  · exact h pins s σ H x y v u Q I rx ry q
  · exact h' pins s σ H x y v u Q I rx ry q

/-! ### comparisons over data -/
/-- the depth that a comparison may have -/
def shal (d e : D) : Bool := decide (min d.depth e.depth ≤ 40)
def rCmp (K : PySem.W.Frag) (C : D → D → Bool) (g : D → D → Bool) : R2 := fun x y H Q => ∃ d e, Rep K H x d ∧ Rep K H y e ∧ C d e = true ∧ Q (.bl (g d e)) H
def gCmp (C : D → D → Bool) (g : D → D → Bool) : D → D → Option D := fun d e => if C d e then some (.bool (g d e)) else none
theorem v_cmp {K : PySem.W.Frag} {C g : D → D → Bool} : OpV K (rCmp K C g) (gCmp C g) := by
  intro x y d e z H Q r1 r2 q k
  unfold gCmp at q
  split at q
  · rename_i hc
    cases q
    exact ⟨d, e, r1, r2, hc, k _ H (Same.refl H) newBl⟩
  · cases q
def cEq (d e : D) : Bool := d.plain && e.plain && shal d e
section
variable {X : Cx}
theorem room_sh {A : Around} {d e : D} (hu : A.units + 64 < cLine) (h : shal d e = true) : A.units + min d.depth e.depth < cLine := by
  have := of_decide_eq_true h
  omega
theorem o_eq {K : PySem.W.Frag} (hu : X.A.units + 64 < cLine) (hK : X.K = K := by rfl) : OpP X (compareOp .Eq) (rCmp K cEq PyData.eqv) (gCmp cEq PyData.eqv) := by
  subst hK
  refine ⟨fun pins s σ H x y v u Q I rx ry ⟨d, e, r1, r2, hc, q⟩ => ?_, v_cmp⟩
  simp only [cEq, Bool.and_eq_true] at hc
  obtain ⟨as, h1⟩ := r1.reads I rx hc.1.1
  obtain ⟨bs, h2⟩ := r2.reads I ry hc.1.2
  exact SeqAt.eq_plain h1 h2 hc.1.1 hc.1.2 (room_sh hu hc.2) ⟨.bl _, H, I, rfl, q⟩
theorem o_ne {K : PySem.W.Frag} (hu : X.A.units + 64 < cLine) (hK : X.K = K := by rfl) : OpP X (compareOp .NotEq) (rCmp K cEq fun d e => !PyData.eqv d e) (gCmp cEq fun d e => !PyData.eqv d e) := by
  subst hK
  refine ⟨fun pins s σ H x y v u Q I rx ry ⟨d, e, r1, r2, hc, q⟩ => ?_, v_cmp⟩
  simp only [cEq, Bool.and_eq_true] at hc
  obtain ⟨as, h1⟩ := r1.reads I rx hc.1.1
  obtain ⟨bs, h2⟩ := r2.reads I ry hc.1.2
  exact SeqAt.ne_plain h1 h2 hc.1.1 hc.1.2 (room_sh hu hc.2) ⟨.bl _, H, I, rfl, q⟩
def isNoneD : D → Bool
  | .none => true
  | _ => false
def cLt (d e : D) : Bool := W.alike d e && !isNoneD d && d.plain && e.plain && shal d e
theorem notNone {d : D} (h : (!isNoneD d) = true) : d ≠ .none := by rintro rfl; simp [isNoneD] at h
theorem o_lt {K : PySem.W.Frag} (hu : X.A.units + 64 < cLine) (hK : X.K = K := by rfl) : OpP X (compareOp .Lt) (rCmp K cLt W.dataLt) (gCmp cLt W.dataLt) := by
  subst hK
  refine ⟨fun pins s σ H x y v u Q I rx ry ⟨d, e, r1, r2, hc, q⟩ => ?_, v_cmp⟩
  simp only [cLt, Bool.and_eq_true] at hc
  obtain ⟨as, h1⟩ := r1.reads I rx hc.1.1.2
  obtain ⟨bs, h2⟩ := r2.reads I ry hc.1.2
  exact W.lt_data h1 h2 hc.1.1.1.1 (notNone hc.1.1.1.2) (room_sh hu hc.2) ⟨.bl _, H, I, rfl, q⟩
theorem o_gt {K : PySem.W.Frag} (hu : X.A.units + 64 < cLine) (hK : X.K = K := by rfl) : OpP X (compareOp .Gt) (rCmp K cLt fun d e => W.dataLt e d) (gCmp cLt fun d e => W.dataLt e d) := by
  subst hK
  refine ⟨fun pins s σ H x y v u Q I rx ry ⟨d, e, r1, r2, hc, q⟩ => ?_, v_cmp⟩
  simp only [cLt, Bool.and_eq_true] at hc
  obtain ⟨as, h1⟩ := r1.reads I rx hc.1.1.2
  obtain ⟨bs, h2⟩ := r2.reads I ry hc.1.2
  exact W.gt_data h1 h2 hc.1.1.1.1 (notNone hc.1.1.1.2) (room_sh hu hc.2) ⟨.bl _, H, I, rfl, q⟩
theorem o_le {K : PySem.W.Frag} (hu : X.A.units + 64 < cLine) (hK : X.K = K := by rfl) : OpP X (compareOp .LtE) (rCmp K cLt fun d e => !W.dataLt e d) (gCmp cLt fun d e => !W.dataLt e d) := by
  subst hK
  refine ⟨fun pins s σ H x y v u Q I rx ry ⟨d, e, r1, r2, hc, q⟩ => ?_, v_cmp⟩
  simp only [cLt, Bool.and_eq_true] at hc
  obtain ⟨as, h1⟩ := r1.reads I rx hc.1.1.2
  obtain ⟨bs, h2⟩ := r2.reads I ry hc.1.2
  exact W.le_data h1 h2 hc.1.1.1.1 (notNone hc.1.1.1.2) (room_sh hu hc.2) ⟨.bl _, H, I, rfl, q⟩
theorem o_ge {K : PySem.W.Frag} (hu : X.A.units + 64 < cLine) (hK : X.K = K := by rfl) : OpP X (compareOp .GtE) (rCmp K cLt fun d e => !W.dataLt d e) (gCmp cLt fun d e => !W.dataLt d e) := by
  subst hK
  refine ⟨fun pins s σ H x y v u Q I rx ry ⟨d, e, r1, r2, hc, q⟩ => ?_, v_cmp⟩
  simp only [cLt, Bool.and_eq_true] at hc
  obtain ⟨as, h1⟩ := r1.reads I rx hc.1.1.2
  obtain ⟨bs, h2⟩ := r2.reads I ry hc.1.2
  exact W.ge_data h1 h2 hc.1.1.1.1 (notNone hc.1.1.1.2) (room_sh hu hc.2) ⟨.bl _, H, I, rfl, q⟩
/-! in, not in: lists, tuples -/
def itemsD : D → Option (List D)
  | .list xs => some xs
  | .tuple xs => some xs
  | _ => none
def cIn (d e : D) : Bool := match itemsD e with
  | some xs => d.plain && PyData.plainAll xs && decide (min (PyData.depthAll xs) d.depth ≤ 40)
  | none => false
def gIn (d e : D) : Bool := ((itemsD e).getD []).any fun y => PyData.eqv y d
theorem o_in {K : PySem.W.Frag} (hu : X.A.units + 64 < cLine) (hK : X.K = K := by rfl) : OpP X (compareOp .In) (rCmp K cIn gIn) (gCmp cIn gIn) := by
  subst hK
  refine ⟨fun pins s σ H x y v u Q I rx ry ⟨d, e, r1, r2, hc, q⟩ => ?_, v_cmp⟩
  cases e with
  | list xs =>
    simp only [cIn, itemsD, Bool.and_eq_true, decide_eq_true_eq] at hc
    obtain ⟨as, h1⟩ := r1.reads I rx hc.1.1
    obtain ⟨bs, h2⟩ := r2.reads I ry (by simpa [PyData.plain] using hc.1.2)
    exact SeqAt.in_list_data h2 h1 hc.1.2 hc.1.1 (by omega) ⟨.bl _, H, I, rfl, q⟩
  | tuple xs =>
    simp only [cIn, itemsD, Bool.and_eq_true, decide_eq_true_eq] at hc
    obtain ⟨as, h1⟩ := r1.reads I rx hc.1.1
    obtain ⟨bs, h2⟩ := r2.reads I ry (by simpa [PyData.plain] using hc.1.2)
    exact SeqAt.in_tuple_data h2 h1 hc.1.2 hc.1.1 (by omega) ⟨.bl _, H, I, rfl, q⟩
  | none => simp [cIn, itemsD] at hc
  | bool _ => simp [cIn, itemsD] at hc
  | int _ => simp [cIn, itemsD] at hc
  | str _ => simp [cIn, itemsD] at hc
  | dict _ => simp [cIn, itemsD] at hc
theorem o_nin {K : PySem.W.Frag} (hu : X.A.units + 64 < cLine) (hK : X.K = K := by rfl) : OpP X (compareOp .NotIn) (rCmp K cIn fun d e => !gIn d e) (gCmp cIn fun d e => !gIn d e) := by
  subst hK
  refine ⟨fun pins s σ H x y v u Q I rx ry ⟨d, e, r1, r2, hc, q⟩ => ?_, v_cmp⟩
  cases e with
  | list xs =>
    simp only [cIn, itemsD, Bool.and_eq_true, decide_eq_true_eq] at hc
    obtain ⟨as, h1⟩ := r1.reads I rx hc.1.1
    obtain ⟨bs, h2⟩ := r2.reads I ry (by simpa [PyData.plain] using hc.1.2)
    exact SeqAt.notIn_list_data h2 h1 hc.1.2 hc.1.1 (by omega) ⟨.bl _, H, I, rfl, q⟩
  | tuple xs =>
    simp only [cIn, itemsD, Bool.and_eq_true, decide_eq_true_eq] at hc
    obtain ⟨as, h1⟩ := r1.reads I rx hc.1.1
    obtain ⟨bs, h2⟩ := r2.reads I ry (by simpa [PyData.plain] using hc.1.2)
    exact SeqAt.notIn_tuple_data h2 h1 hc.1.2 hc.1.1 (by omega) ⟨.bl _, H, I, rfl, q⟩
  | none => simp [cIn, itemsD] at hc
  | bool _ => simp [cIn, itemsD] at hc
  | int _ => simp [cIn, itemsD] at hc
  | str _ => simp [cIn, itemsD] at hc
  | dict _ => simp [cIn, itemsD] at hc
/-! is None, is True -/
def gIs (d e : D) : Option D := match d, e with
  | .bool a, .bool b => some (.bool (decide (a = b)))
  | d, .none => some (.bool (isNoneD d))
  | _, _ => none
def gIsNot (d e : D) : Option D := match d, e with
  | .bool a, .bool b => some (.bool (!decide (a = b)))
  | d, .none => some (.bool (!isNoneD d))
  | _, _ => none
def rIs1 : R2 := fun x y H Q => y = .non ∧ Q (.bl (decide (x = .non))) H
def rIs2 : R2 := fun x y H Q => y = .non ∧ Q (.bl (!decide (x = .non))) H
theorem isNone_rep {K : PySem.W.Frag} {H : Hp} {x : V} {d : D} (r : Rep K H x d) : decide (x = .non) = isNoneD d := by
  cases r <;> simp [isNoneD]
theorem o_is : OpP X (compareOp .Is) (fun x y H Q => rIsB x y H Q ∨ rIs1 x y H Q) gIs := by
  refine ⟨OpR.or op_isBl op_isN, fun x y d e z H Q r1 r2 q k => ?_⟩
  cases r2 with
  | non =>
    have e1 : gIs d .none = some (.bool (isNoneD d)) := by cases d <;> rfl
    rw [e1] at q; cases q
    exact .inr ⟨rfl, by rw [isNone_rep r1]; exact k _ H (Same.refl H) newBl⟩
  | bl b =>
    cases r1 with
    | bl a => cases q; exact .inl ⟨a, b, rfl, rfl, k _ H (Same.refl H) newBl⟩
    | _ => cases q
  | _ => cases r1 <;> cases q
theorem o_isNot : OpP X (compareOp .IsNot) (fun x y H Q => rNotB x y H Q ∨ rIs2 x y H Q) gIsNot := by
  refine ⟨OpR.or op_notBl op_notN, fun x y d e z H Q r1 r2 q k => ?_⟩
  cases r2 with
  | non =>
    have e1 : gIsNot d .none = some (.bool (!isNoneD d)) := by cases d <;> rfl
    rw [e1] at q; cases q
    exact .inr ⟨rfl, by rw [isNone_rep r1]; exact k _ H (Same.refl H) newBl⟩
  | bl b =>
    cases r1 with
    | bl a => cases q; exact .inl ⟨a, b, rfl, rfl, k _ H (Same.refl H) newBl⟩
    | _ => cases q
  | _ => cases r1 <;> cases q

/-! ### arithmetic -/
/-- the greatest length that is let -/
def cap : Nat := 1000000
theorem cap_le {n : Nat} (h : n ≤ cap) : n ≤ sizeLine := Nat.le_trans h (by unfold cap; decide)
theorem cap_lt {n : Nat} (h : n ≤ cap) : n < sizeLine := Nat.lt_of_le_of_lt h (by unfold cap; decide)
/-- the greatest size of numbers that are multiplied, divide -/
def BIG : Nat := 2 ^ 4000
def sm (i : Int) : Bool := decide (i.natAbs < BIG)
theorem sm_log {i : Int} (h : sm i = true) : i.natAbs.log2 < 4000 := by
  have h := of_decide_eq_true h
  exact PySem.Flt.log2_lt_of (by decide) h
def gAdd : D → D → Option D
  | .int i, .int j => some (.int (i + j))
  | .str x, .str y => if x.length + y.length ≤ cap then some (.str (x ++ y)) else none
  | .tuple a, .tuple b => if a.length + b.length ≤ cap ∧ frozenL a = true ∧ frozenL b = true then some (.tuple (a ++ b)) else none
  | .list a, .list b => if a.length + b.length ≤ cap ∧ frozenL a = true ∧ frozenL b = true then some (.list (a ++ b)) else none
  | _, _ => none
def rAddI : R2 := rI0 fun i j => .int (i + j)
def rAddS : R2 := fun x y H Q => ∃ i j, x = .str i ∧ y = .str j ∧ i.length + j.length ≤ sizeLine ∧ Q (.str (i ++ j)) H
theorem nilLen {K : PySem.W.Frag} {H : Hp} {xs : List V} {ds : List D} (r : RepL K H xs ds) (e : xs = []) : ds = [] := by
  subst e; cases r; rfl
theorem o_add {K : PySem.W.Frag} (hK : X.K = K := by rfl) : OpP X (binaryOp .Add) (fun x y H Q => rAddI x y H Q ∨ (rAddS x y H Q ∨ (rCatA K x y H Q ∨ rCat x y H Q))) gAdd := by
  subst hK
  refine ⟨OpR.or op_add (OpR.or op_add_str (OpR.or op_catA op_cat)), fun x y d e z H Q r1 r2 q k => ?_⟩
  cases r1 with
  | int i =>
    cases r2 with
    | int j => cases q; exact .inl ⟨i, j, rfl, rfl, k _ H (Same.refl H) newInt⟩
    | _ => cases q
  | str i =>
    cases r2 with
    | str j =>
      simp only [gAdd] at q
      split at q
      · rename_i hl
        cases q
        exact .inr (.inl ⟨i, j, rfl, rfl, cap_le hl, k _ H (Same.refl H) newStr⟩)
      · cases q
    | _ => cases q
  | @tup a xs ds h r =>
    cases r2 with
    | @tup b ys es h2 r2 =>
      simp only [gAdd] at q
      split at q
      · rename_i hl
        cases q
        have e1 := r.length
        have e2 := r2.length
        have fz : frozen (.tuple (ds ++ es)) = true := by simp [frozen, frozenL_append, hl.2.1, hl.2.2]
        refine .inr (.inr (.inl ⟨a, b, xs, ys, rfl, rfl, h, h2, by rw [e1, e2]; exact cap_le hl.1, fun n => ?_, fun n m => ?_, fun n m p hp => ?_⟩))
        · have := nilLen r n
          subst this
          exact k _ H (Same.refl H) (New.frz (.tup h2 r2) (by simpa using fz))
        · have := nilLen r2 m
          subst this
          exact k _ H (Same.refl H) (New.frz (by simpa using Rep.tup h r) fz)
        · exact k _ _ (sameNew hp _) (New.frz (.tup (SqT.of upd_same) ((r.mono (smOf (sameNew hp _))).append (r2.mono (smOf (sameNew hp _))))) fz)
      · cases q
    | _ => cases q
  | @lst a xs ds h r =>
    cases r2 with
    | @lst b ys es h2 r2 =>
      simp only [gAdd] at q
      split at q
      · rename_i hl
        cases q
        have e1 := r.length
        have e2 := r2.length
        refine .inr (.inr (.inr ⟨a, b, xs, ys, rfl, rfl, h, h2, by rw [e1, e2]; exact cap_le hl.1, fun p hp => ?_⟩))
        exact k _ _ (sameNew hp _) (New.lst (NewL.frz (r.append r2) (by rw [frozenL_append, hl.2.1, hl.2.2]; rfl)) (Same.refl H) hp)
      · cases q
    | _ => cases q
  | _ => cases r2 <;> cases q
def gI2 (C : Int → Int → Bool) (g : Int → Int → Int) : D → D → Option D
  | .int i, .int j => if C i j then some (.int (g i j)) else none
  | _, _ => none
theorem v_I2 {K : PySem.W.Frag} {C : Int → Int → Bool} {C' : Int → Int → Prop} {g : Int → Int → Int} (h : ∀ i j, C i j = true → C' i j) : OpV K (rI C' fun i j => .int (g i j)) (gI2 C g) := by
  intro x y d e z H Q r1 r2 q k
  cases r1 with
  | int i =>
    cases r2 with
    | int j =>
      simp only [gI2] at q
      split at q
      · rename_i hc
        cases q
        exact ⟨i, j, rfl, rfl, h i j hc, k _ H (Same.refl H) newInt⟩
      · cases q
    | _ => cases q
  | _ => cases r2 <;> cases q
def gSub : D → D → Option D := gI2 (fun _ _ => true) fun i j => i - j
theorem o_sub : OpP X (binaryOp .Sub) (rI (fun _ _ => True) fun i j => .int (i - j)) gSub :=
  ⟨fun pins s σ H x y v u Q I rx ry ⟨i, j, a, b, _, q⟩ => op_sub pins s σ H x y v u Q I rx ry ⟨i, j, a, b, q⟩, v_I2 fun _ _ _ => trivial⟩
def cDiv (_ j : Int) : Bool := decide (0 < j) && sm j
def gFdiv : D → D → Option D := gI2 cDiv fun i j => i / j
theorem o_fdiv : OpP X (binaryOp .FloorDiv) (rI CDivW fun i j => .int (i / j)) gFdiv := ⟨op_fdivW, v_I2 fun i j h => by
  simp only [cDiv, Bool.and_eq_true, decide_eq_true_eq] at h
  exact ⟨h.1, Nat.lt_of_lt_of_le (sm_log h.2) (by decide)⟩⟩
def gMod : D → D → Option D := gI2 (fun _ j => decide (0 < j)) fun i j => i % j
theorem o_mod : OpP X (binaryOp .Mod) (rI (fun _ j => 0 < j) fun i j => .int (i % j)) gMod := ⟨op_mod, v_I2 fun i j h => of_decide_eq_true h⟩
def cPow (i j : Int) : Bool := decide (0 ≤ j) && decide (j ≤ 1000) && decide (i.natAbs < 2 ^ 64)
def gPow : D → D → Option D := gI2 cPow fun i j => i ^ j.toNat
theorem o_pow : OpP X (binaryOp .Pow) (rI CPow fun i j => .int (i ^ j.toNat)) gPow := ⟨op_pow, v_I2 fun i j h => by
  simp only [cPow, Bool.and_eq_true, decide_eq_true_eq] at h
  exact ⟨h.1.1, by omega, h.2⟩⟩
def gMul : D → D → Option D
  | .int i, .int j => if sm i && sm j then some (.int (i * j)) else none
  | .list a, .int j => if 0 ≤ j ∧ j ≤ 10000 ∧ a.length * j.toNat ≤ cap ∧ frozenL a = true then some (.list (List.replicate j.toNat a).flatten) else none
  | .tuple a, .int j => if 2 ≤ j ∧ j ≤ 1000 ∧ a.length ≤ 1000 ∧ a ≠ [] ∧ frozenL a = true then some (.tuple (List.replicate j.toNat a).flatten) else none
  | _, _ => none
theorem frozenL_rep (a : List D) (h : frozenL a = true) : ∀ k : Nat, frozenL (List.replicate k a).flatten = true
  | 0 => rfl
  | k + 1 => by rw [List.replicate_succ, List.flatten_cons, frozenL_append, h, frozenL_rep a h k]; rfl
theorem o_mul {K : PySem.W.Frag} (hK : X.K = K := by rfl) : OpP X (binaryOp .Mult) (fun x y H Q => (rI CMulW fun i j => .int (i * j)) x y H Q ∨ (rRep x y H Q ∨ rRepT K x y H Q)) gMul := by
  subst hK
  refine ⟨OpR.or op_mulW (OpR.or op_rep op_repT), fun x y d e z H Q r1 r2 q k => ?_⟩
  cases r1 with
  | int i =>
    cases r2 with
    | int j =>
      simp only [gMul] at q
      split at q
      · rename_i hc
        cases q
        simp only [Bool.and_eq_true] at hc
        exact .inl ⟨i, j, rfl, rfl, by have := sm_log hc.1; have := sm_log hc.2; unfold CMulW; omega, k _ H (Same.refl H) newInt⟩
      · cases q
    | _ => cases q
  | @lst a xs ds h r =>
    cases r2 with
    | int j =>
      simp only [gMul] at q
      split at q
      · rename_i hl
        cases q
        have e1 := r.length
        exact .inr (.inl ⟨a, j, xs, rfl, rfl, h, by omega, by omega, by rw [e1]; exact cap_le hl.2.2.1, fun p hp => k _ _ (sameNew hp _) (New.lst (NewL.frz (r.rep _) (frozenL_rep _ hl.2.2.2 _)) (Same.refl H) hp)⟩)
      · cases q
    | _ => cases q
  | @tup a xs ds h r =>
    cases r2 with
    | int j =>
      simp only [gMul] at q
      split at q
      · rename_i hl
        cases q
        have e1 := r.length
        refine .inr (.inr ⟨a, j, xs, rfl, rfl, h, fun n => hl.2.2.2.1 (nilLen r n), hl.1, hl.2.1, by rw [e1]; exact hl.2.2.1, fun p hp => ?_⟩)
        exact k _ _ (sameNew hp _) (New.tup (NewL.frz (r.rep _) (frozenL_rep _ hl.2.2.2.2 _)) hp)
      · cases q
    | _ => cases q
  | _ => cases r2 <;> cases q
def gNeg : D → Option D
  | .int i => some (.int (-i))
  | _ => none
theorem o_neg : UnP X (unaryOp .USub) (rU fun i => .int (-i)) gNeg := by
  refine ⟨un_neg, fun x d z H Q r q k => ?_⟩
  cases r with
  | int i => cases q; exact ⟨i, rfl, k _ H (Same.refl H) newInt⟩
  | _ => cases q
end
end Pd

set_option Elab.async false
set_option linter.all false
set_option maxRecDepth 100000
set_option maxHeartbeats 4000000
/-! Pd3: built-in functions, subscripts, slices, tests. -/
namespace Pd
open PySem PySem.Spec PyProof.Rows L2

def eCall (g : List D → Option D) (fs : En → Option (List D)) : FE := fun ε => (fs ε).bind g
theorem so_call {K : PySem.W.Frag} {r : List V → Hp → VK → Prop} {g : List D → Option D} {t : TA} {fs : En → Option (List D)} (o : CallV K r g) (ha : ASo K t fs) : FSo K (tCB r t) (eCall g fs) := by
  intro ε σ H d Q ok q k
  obtain ⟨x, q1, q3⟩ := bindSome q
  refine ha ε σ H x _ ok q1 fun v H1 s1 r1 => ?_
  exact o v x d H1 Q r1 q3 fun w H3 s3 n => k w H3 (s1.trans s3) (n.back s1)
section
variable {X : Cx} {x : Str} {p pos : Pos} {e : Expr} {es : List Expr} {t : TA} {id T : String} {r : List V → Hp → VK → Prop} {g : List D → Option D} {fs : En → Option (List D)}
theorem pf_cb (o : CallP X (.builtin id) r g) (hm : X.mg x = none) (ha : PAr X (e :: es) t fs) (hg : Gl X x := by rfl) (hv : bootBuiltins x = some (.builtin id) := by decide +kernel) (hn : x ≠ "__name__" := by decide) (hdb : (x == ("__debug__" : Str)) = false := by decide)
    (he : starEach (e :: es) X.env = (false, eval e X.env) :: starEach es X.env := by rfl) (hpl : (backTo pos (starEach es X.env)).any (·.1) = false := by rfl) : PF X (.Call (.Name x p) (e :: es) [] pos) (tCB r t) (eCall g fs) :=
  ⟨pe_callB o.op hg hm hv ha.pa hn hdb he hpl, so_call o.v ha.so⟩
theorem pf_ct (o : CallP X (.type T) r g) (hm : X.mg x = none) (ha : PAr X (e :: es) t fs) (hg : Gl X x := by rfl) (hv : bootBuiltins x = some (.type T) := by decide +kernel) (hn : x ≠ "__name__" := by decide) (hdb : (x == ("__debug__" : Str)) = false := by decide)
    (he : starEach (e :: es) X.env = (false, eval e X.env) :: starEach es X.env := by rfl) (hpl : (backTo pos (starEach es X.env)).any (·.1) = false := by rfl) : PF X (.Call (.Name x p) (e :: es) [] pos) (tCB r t) (eCall g fs) :=
  ⟨pe_callTy o.op hg hm hv ha.pa hn hdb he hpl, so_call o.v ha.so⟩
end

/-! ### len, abs, min, max, sum, all, any, int, tuple, list, sorted -/
theorem CallR.or' {X : Cx} {f : Value} {r r' : List V → Hp → VK → Prop} (h : CallR X f r) (h' : CallR X f r') : CallR X f (fun xs H Q => r xs H Q ∨ r' xs H Q) := CallR.or h h'
section
variable {X : Cx}
def gLen : List D → Option D
  | [.list xs] => some (.int xs.length)
  | [.tuple xs] => some (.int xs.length)
  | [.str x] => if x.length ≤ cap then some (.int x.length) else none
  | _ => none
def rLen1 (K : PySem.W.Frag) : List V → Hp → VK → Prop := fun xs H Q => ∃ p ys, xs = [.ref p] ∧ (SqL K H p ys ∨ SqT K H p ys) ∧ Q (.int ys.length) H
def rLen2 : List V → Hp → VK → Prop := fun xs H Q => ∃ z, xs = [.str z] ∧ z.length ≤ sizeLine ∧ Q (.int z.length) H
theorem rep1 {K : PySem.W.Frag} {H : Hp} {vs : List V} {d : D} (r : RepL K H vs [d]) : ∃ v, vs = [v] ∧ Rep K H v d := by
  cases r with
  | cons r t => cases t; exact ⟨_, rfl, r⟩
theorem rep2 {K : PySem.W.Frag} {H : Hp} {vs : List V} {d e : D} (r : RepL K H vs [d, e]) : ∃ v u, vs = [v, u] ∧ Rep K H v d ∧ Rep K H u e := by
  cases r with
  | cons r t =>
    obtain ⟨u, rfl, q⟩ := rep1 t
    exact ⟨_, _, rfl, r, q⟩
theorem c_len {K : PySem.W.Frag} (hK : X.K = K := by rfl) : CallP X (.builtin "len") (fun xs H Q => rLen1 K xs H Q ∨ rLen2 xs H Q) gLen := by
  subst hK
  refine ⟨CallR.or call_len_seq call_len_str, fun vs ds z H Q r q k => ?_⟩
  unfold gLen at q
  split at q
  · obtain ⟨v, rfl, rv1⟩ := rep1 r
    cases q
    cases rv1 with
    | lst h r => exact .inl ⟨_, _, rfl, .inl (SqL.of h), by rw [r.length]; exact k _ H (Same.refl H) newInt⟩
  · obtain ⟨v, rfl, rv1⟩ := rep1 r
    cases q
    cases rv1 with
    | tup h r => exact .inl ⟨_, _, rfl, .inr h, by rw [r.length]; exact k _ H (Same.refl H) newInt⟩
  · obtain ⟨v, rfl, rv1⟩ := rep1 r
    split at q
    · rename_i hc
      cases q
      cases rv1
      exact .inr ⟨_, rfl, cap_le hc, k _ H (Same.refl H) newInt⟩
    · cases q
  · cases q
def gAbs : List D → Option D
  | [.int i] => some (.int (if i < 0 then -i else i))
  | _ => none
theorem c_abs : CallP X (.builtin "abs") (fun xs H Q => ∃ i, xs = [.int i] ∧ Q (.int (if i < 0 then -i else i)) H) gAbs := by
  refine ⟨call_abs, fun vs ds z H Q r q k => ?_⟩
  unfold gAbs at q
  split at q
  · obtain ⟨v, rfl, rv1⟩ := rep1 r
    cases q
    cases rv1
    exact ⟨_, rfl, k _ H (Same.refl H) newInt⟩
  · cases q
/-! lists of ints, of truth values -/
def intsD : List D → Option (List Int)
  | [] => some []
  | .int i :: r => (intsD r).map (i :: ·)
  | _ => none
def boolsD : List D → Option (List Bool)
  | [] => some []
  | .bool i :: r => (boolsD r).map (i :: ·)
  | _ => none
theorem intsD_map (ns : List Int) : intsD (ns.map .int) = some ns := by
  induction ns with
  | nil => rfl
  | cons n r ih => simp [intsD, ih]
theorem boolsD_map (ns : List Bool) : boolsD (ns.map .bool) = some ns := by
  induction ns with
  | nil => rfl
  | cons n r ih => simp [boolsD, ih]
theorem intsD_eq : ∀ {ds : List D} {ns : List Int}, intsD ds = some ns → ds = ns.map .int
  | [], ns, h => by simp [intsD] at h; subst h; rfl
  | .int i :: r, ns, h => by
    simp only [intsD, Option.map_eq_some_iff] at h
    obtain ⟨m, h, rfl⟩ := h
    rw [intsD_eq h]; rfl
  | .none :: r, _, h => by simp [intsD] at h
  | .bool _ :: r, _, h => by simp [intsD] at h
  | .str _ :: r, _, h => by simp [intsD] at h
  | .list _ :: r, _, h => by simp [intsD] at h
  | .tuple _ :: r, _, h => by simp [intsD] at h
  | .dict _ :: r, _, h => by simp [intsD] at h
theorem boolsD_eq : ∀ {ds : List D} {ns : List Bool}, boolsD ds = some ns → ds = ns.map .bool
  | [], ns, h => by simp [boolsD] at h; subst h; rfl
  | .bool i :: r, ns, h => by
    simp only [boolsD, Option.map_eq_some_iff] at h
    obtain ⟨m, h, rfl⟩ := h
    rw [boolsD_eq h]; rfl
  | .none :: r, _, h => by simp [boolsD] at h
  | .int _ :: r, _, h => by simp [boolsD] at h
  | .str _ :: r, _, h => by simp [boolsD] at h
  | .list _ :: r, _, h => by simp [boolsD] at h
  | .tuple _ :: r, _, h => by simp [boolsD] at h
  | .dict _ :: r, _, h => by simp [boolsD] at h
theorem repInts {K : PySem.W.Frag} {H : Hp} : ∀ {vs : List V} {ns : List Int}, RepL K H vs (ns.map .int) → vs = ns.map V.int
  | _, [], r => by cases r; rfl
  | _, n :: ns, r => by
    have r' : RepL K H _ (.int n :: ns.map .int) := r
    cases r' with
    | cons r t => cases r; rw [repInts t]; rfl
theorem repBls {K : PySem.W.Frag} {H : Hp} : ∀ {vs : List V} {ns : List Bool}, RepL K H vs (ns.map .bool) → vs = ns.map V.bl
  | _, [], r => by cases r; rfl
  | _, n :: ns, r => by
    have r' : RepL K H _ (.bool n :: ns.map .bool) := r
    cases r' with
    | cons r t => cases r; rw [repBls t]; rfl
def gSum : List D → Option D
  | [.list ds] => (intsD ds).map fun ns => .int ns.sum
  | _ => none
theorem c_sum {K : PySem.W.Frag} (hc : X.calm = true := by rfl) (hK : X.K = K := by rfl) : CallP X (.builtin "sum") (rSum K) gSum := by
  subst hK
  refine ⟨cr_sum hc, fun vs ds z H Q r q k => ?_⟩
  unfold gSum at q
  split at q
  · obtain ⟨v, rfl, rv1⟩ := rep1 r
    rw [Option.map_eq_some_iff] at q
    obtain ⟨ns, e, rfl⟩ := q
    have e := intsD_eq e
    subst e
    cases rv1 with
    | lst h r =>
      have := repInts r
      subst this
      exact ⟨_, ns, rfl, SqL.of h, k _ H (Same.refl H) newInt⟩
  · cases q
def gAll : List D → Option D
  | [.list ds] => (boolsD ds).map fun ns => .bool (ns.all id)
  | _ => none
def gAny : List D → Option D
  | [.list ds] => (boolsD ds).map fun ns => .bool (ns.any id)
  | _ => none
theorem c_all {K : PySem.W.Frag} (hc : X.calm = true := by rfl) (hK : X.K = K := by rfl) : CallP X (.builtin "all") (rAll K) gAll := by
  subst hK
  refine ⟨cr_all hc, fun vs ds z H Q r q k => ?_⟩
  unfold gAll at q
  split at q
  · obtain ⟨v, rfl, rv1⟩ := rep1 r
    rw [Option.map_eq_some_iff] at q
    obtain ⟨ns, e, rfl⟩ := q
    have e := boolsD_eq e
    subst e
    cases rv1 with
    | lst h r =>
      have := repBls r
      subst this
      exact ⟨_, ns, rfl, SqL.of h, k _ H (Same.refl H) newBl⟩
  · cases q
theorem c_any {K : PySem.W.Frag} (hc : X.calm = true := by rfl) (hK : X.K = K := by rfl) : CallP X (.builtin "any") (rAny K) gAny := by
  subst hK
  refine ⟨cr_any hc, fun vs ds z H Q r q k => ?_⟩
  unfold gAny at q
  split at q
  · obtain ⟨v, rfl, rv1⟩ := rep1 r
    rw [Option.map_eq_some_iff] at q
    obtain ⟨ns, e, rfl⟩ := q
    have e := boolsD_eq e
    subst e
    cases rv1 with
    | lst h r =>
      have := repBls r
      subst this
      exact ⟨_, ns, rfl, SqL.of h, k _ H (Same.refl H) newBl⟩
  · cases q
def gInt : List D → Option D
  | [.int i] => some (.int i)
  | [.bool b] => some (.int (if b then 1 else 0))
  | _ => none
theorem c_int : CallP X (.type "int") (fun xs H Q => (∃ i, xs = [.int i] ∧ Q (.int i) H) ∨ ∃ k, xs = [.bl k] ∧ Q (.int (if k then 1 else 0)) H) gInt := by
  refine ⟨call_int1, fun vs ds z H Q r q k => ?_⟩
  unfold gInt at q
  split at q
  · obtain ⟨v, rfl, rv1⟩ := rep1 r
    cases q; cases rv1
    exact .inl ⟨_, rfl, k _ H (Same.refl H) newInt⟩
  · obtain ⟨v, rfl, rv1⟩ := rep1 r
    cases q; cases rv1
    exact .inr ⟨_, rfl, k _ H (Same.refl H) newInt⟩
  · cases q
def gTupOf : List D → Option D
  | [.list xs] => if frozenL xs then some (.tuple xs) else none
  | [.tuple xs] => if frozenL xs then some (.tuple xs) else none
  | _ => none
theorem c_tuple {K : PySem.W.Frag} (hK : X.K = K := by rfl) : CallP X (.type "tuple") (fun xs H Q => ∃ a ys, xs = [.ref a] ∧ ((SqL K H a ys ∧ ∀ l, H l = none → Q (.ref l) (upd H l (.tup ys))) ∨ (SqT K H a ys ∧ Q (.ref a) H))) gTupOf := by
  subst hK
  refine ⟨call_tuple_of, fun vs ds z H Q r q k => ?_⟩
  unfold gTupOf at q
  split at q
  · obtain ⟨v, rfl, rv1⟩ := rep1 r
    split at q
    · rename_i hf
      cases q
      cases rv1 with
      | lst h r => exact ⟨_, _, rfl, .inl ⟨SqL.of h, fun l hl => k _ _ (sameNew hl _) (New.tup (NewL.frz r hf) hl)⟩⟩
    · cases q
  · obtain ⟨v, rfl, rv1⟩ := rep1 r
    split at q
    · rename_i hf
      cases q
      cases rv1 with
      | tup h r => exact ⟨_, _, rfl, .inr ⟨h, k _ _ (Same.refl H) (New.frz (.tup h r) (by simpa [frozen] using hf))⟩⟩
    · cases q
  · cases q
def gListOf : List D → Option D
  | [.list xs] => if frozenL xs then some (.list xs) else none
  | [.tuple xs] => if frozenL xs then some (.list xs) else none
  | _ => none
def rList1 (K : PySem.W.Frag) : List V → Hp → VK → Prop := fun xs H Q => ∃ p ys, xs = [.ref p] ∧ (SqL K H p ys ∨ SqT K H p ys) ∧ ∀ l, H l = none → Q (.ref l) (upd H l (.lst ys))
theorem c_list {K : PySem.W.Frag} (hK : X.K = K := by rfl) : CallP X (.type "list") (rList1 K) gListOf := by
  subst hK
  refine ⟨call_list_of, fun vs ds z H Q r q k => ?_⟩
  unfold gListOf at q
  split at q
  · obtain ⟨v, rfl, rv1⟩ := rep1 r
    split at q
    · rename_i hf
      cases q
      cases rv1 with
      | lst h r => exact ⟨_, _, rfl, .inl (SqL.of h), fun l hl => k _ _ (sameNew hl _) (New.lst (NewL.frz r hf) (Same.refl H) hl)⟩
    · cases q
  · obtain ⟨v, rfl, rv1⟩ := rep1 r
    split at q
    · rename_i hf
      cases q
      cases rv1 with
      | tup h r => exact ⟨_, _, rfl, .inr h, fun l hl => k _ _ (sameNew hl _) (New.lst (NewL.frz r hf) (Same.refl H) hl)⟩
    · cases q
  · cases q
/-! sorted: alike data -/
def alikeB (xs : List D) : Bool := xs.all fun x => xs.all fun y => W.alike x y
def allTup1 (xs : List D) : Bool := xs.all fun x => match x with
  | .tuple (_ :: _) => true
  | _ => false
def allOther (xs : List D) : Bool := xs.all fun x => match x with
  | .tuple _ => false
  | .none => false
  | _ => true
def shalL (xs : List D) : Bool := xs.all fun x => decide (x.depth ≤ 40)
def gSorted : List D → Option D
  | [.list xs] => if alikeB xs && (allTup1 xs || allOther xs) && frozenL xs && shalL xs && decide (xs.length ≤ cap) then some (.list (xs.mergeSort (W.dataLe false id))) else none
  | [.tuple xs] => none
  | _ => none
def rSortedD (K : PySem.W.Frag) : List V → Hp → VK → Prop := fun vs H Q => ∃ (a : Addr) (ys : List V) (ds : List D), vs = [.ref a] ∧ SqL K H a ys ∧ RepL K H ys ds ∧ (alikeB ds && (allTup1 ds || allOther ds) && frozenL ds && shalL ds && decide (ds.length ≤ cap)) = true ∧
  ∀ p zs, H p = none → RepL K H zs (ds.mergeSort (W.dataLe false id)) → Q (.ref p) (upd H p (.lst zs))
theorem frozenL_mem {xs : List D} (h : frozenL xs = true) : ∀ {d : D}, d ∈ xs → frozen d = true := by
  rw [frozenL_all, List.all_eq_true] at h
  exact fun m => h _ m
theorem eachOf {K : PySem.W.Frag} {H : Hp} : ∀ {vs : List V} {us : List Value} {ds : List D}, RepL K H vs ds → Vals vs us → W.EachIs (fun u d => ∃ v, RelV v u ∧ Rep K H v d) us ds
  | _, _, _, .nil, .nil => .nil
  | _, _, _, .cons r t, .cons q s => .cons ⟨_, q, r⟩ (eachOf t s)
theorem eachTo {K : PySem.W.Frag} {H : Hp} : ∀ {us : List Value} {ds : List D}, W.EachIs (fun u d => ∃ v, RelV v u ∧ Rep K H v d) us ds → ∃ vs, RepL K H vs ds ∧ Vals vs us
  | _, _, .nil => ⟨[], .nil, .nil⟩
  | _, _, .cons ⟨v, q, r⟩ s => by
    obtain ⟨vs, r2, q2⟩ := eachTo s
    exact ⟨v :: vs, .cons r r2, .cons q q2⟩
theorem c_sorted {K : PySem.W.Frag} (hu : X.A.units + 64 < cLine) (hK : X.K = K := by rfl) : CallP X (.builtin "sorted") (rSortedD K) gSorted := by
  subst hK
  refine ⟨fun pins s σ H vs us Q I r h => ?_, fun vs ds z H Q r q k => ?_⟩
  · obtain ⟨a, ys, ds, rfl, hs, hr, hc, q⟩ := h
    simp only [Bool.and_eq_true, decide_eq_true_eq] at hc
    obtain ⟨⟨⟨⟨h1, h2⟩, h3⟩, h4⟩, h5⟩ := hc
    obtain ⟨its, rv, hl, _⟩ := I.list hs
    rw [Vals.ref1 r]
    have er : W.EachIs (fun v b => ∃ as, Reads s.heap v (id b) as) its ds := by
      have go : ∀ {ys : List V} {its : List Value} {ds : List D}, RepL X.K H ys ds → Vals ys its → frozenL ds = true → W.EachIs (fun v b => ∃ as, Reads s.heap v (id b) as) its ds := by
        intro ys its ds hr rv
        induction rv generalizing ds with
        | nil => intro _; cases hr; exact .nil
        | cons q t ih =>
          intro hf
          cases hr with
          | cons r1 r2 =>
            simp only [frozenL, Bool.and_eq_true] at hf
            exact .cons (r1.reads I q (frozen_plain hf.1)) (ih r2 hf.2)
      exact go hr rv h3
    have al : W.AllAlike (ds.map id) := by
      rw [List.map_id]
      intro d hd d' hd'
      unfold alikeB at h1
      rw [List.all_eq_true] at h1
      have := h1 d hd
      rw [List.all_eq_true] at this
      exact this d' hd'
    have so : W.Sortable (ds.map id) := by
      rw [List.map_id]
      rw [Bool.or_eq_true] at h2
      rcases h2 with h2 | h2
      · refine .inl fun d hd => ?_
        unfold allTup1 at h2
        rw [List.all_eq_true] at h2
        have := h2 d hd
        split at this
        · exact ⟨_, _, rfl⟩
        · cases this
      · refine .inr fun d hd => ?_
        unfold allOther at h2
        rw [List.all_eq_true] at h2
        have := h2 d hd
        constructor
        · rintro rfl; simp at this
        · rintro xs rfl; simp at this
    refine W.sorted_data (R := fun u d => ∃ v, RelV v u ∧ Rep X.K H v d) (enc := id) hl.isList (eachOf hr rv) er al so (cap_le h5) (fun b hb => ?_) fun out hlen ho => ?_
    · unfold shalL at h4
      rw [List.all_eq_true] at h4
      have := of_decide_eq_true (h4 b hb)
      show X.A.units + 2 + b.depth < cLine
      omega
    · obtain ⟨zs, r2, q2⟩ := eachTo ho
      obtain ⟨ep, he'⟩ := PyProof.Rows.sortedAll_at s.heap its out.toArray
      have hz : zs.length ≤ sizeLine := by
        rw [r2.length, List.length_mergeSort]; exact cap_le h5
      have hf := I.hok.fresh (Nat.le_succ s.heap.objs.size)
      exact ⟨.ref _, upd H (s.heap.objs.size + 1) (.lst zs), I.laid (t' := s.toks) (fun _ _ => PyProof.Rows.sortedAll_old) (Nat.le_succ _) ⟨hz, out, ep, q2, he'⟩, rfl, q _ zs hf r2⟩
  · unfold gSorted at q
    split at q
    · obtain ⟨v, rfl, rv1⟩ := rep1 r
      split at q
      · rename_i hc
        cases q
        cases rv1 with
        | lst h r =>
          refine ⟨_, _, _, rfl, SqL.of h, r, hc, fun p zs hp rz => k _ _ (sameNew hp _) (New.lst (NewL.frz rz ?_) (Same.refl H) hp)⟩
          simp only [Bool.and_eq_true] at hc
          rw [frozenL_all, List.all_eq_true]
          intro d hd
          exact frozenL_mem hc.1.1.2 ((List.mergeSort_perm _ _).mem_iff.mp hd)
      · cases q
    · cases q
    · cases q
/-! min, max -/
def okMM (xs : List D) : Bool := alikeB xs && xs.all (fun x => !isNoneD x) && frozenL xs && decide (PyData.depthAll xs ≤ 40)
theorem okMM_frz {xs : List D} (ok : okMM xs = true) : frozenL xs = true := by simp only [okMM, Bool.and_eq_true] at ok; exact ok.1.2
def gMin : List D → Option D
  | [.list (x :: xs)] => if okMM (x :: xs) then some (W.minD x xs) else none
  | [.tuple (x :: xs)] => if okMM (x :: xs) then some (W.minD x xs) else none
  | [.int i, .int j] => some (.int (if j < i then j else i))
  | _ => none
def gMax : List D → Option D
  | [.list (x :: xs)] => if okMM (x :: xs) then some (W.maxD x xs) else none
  | [.tuple (x :: xs)] => if okMM (x :: xs) then some (W.maxD x xs) else none
  | [.int i, .int j] => some (.int (if j > i then j else i))
  | _ => none
def rMM (K : PySem.W.Frag) (g : D → List D → D) : List V → Hp → VK → Prop := fun vs H Q => ∃ (a : Addr) (ys : List V) (x : D) (xs : List D), vs = [.ref a] ∧ ((SqL K H a ys) ∨ SqT K H a ys) ∧ RepL K H ys (x :: xs) ∧ okMM (x :: xs) = true ∧
  ∀ v, Rep K H v (g x xs) → Q v H
theorem foldMM (f : D → D → Bool) : ∀ (xs : List D) (x : D), xs.foldl (fun a y => if f a y then y else a) x ∈ x :: xs
  | [], x => by simp
  | y :: ys, x => by
    rw [List.foldl_cons]
    by_cases h : f x y = true
    · simp only [h, if_true]
      exact List.mem_cons_of_mem _ (foldMM f ys y)
    · simp only [h]
      rcases List.mem_cons.mp (foldMM f ys x) with e | e
      · rw [if_neg (by simp), e]; exact List.mem_cons_self
      · rw [if_neg (by simp)]; exact List.mem_cons_of_mem _ (List.mem_cons_of_mem _ e)
theorem alikeOf {xs : List D} (h1 : alikeB xs = true) (h2 : xs.all (fun x => !isNoneD x) = true) : W.AlikeAll xs := by
  unfold alikeB at h1
  rw [List.all_eq_true] at h1 h2
  refine ⟨fun x hx y hy => ?_, fun x hx => notNone (h2 x hx)⟩
  have := h1 x hx
  rw [List.all_eq_true] at this
  exact this y hy
theorem mmEnd {pins : List (Addr × Obj)} {σ : L2.St} {H : Hp} {s : Shared} {ys : List V} {its : List Value} {x : D} {xs : List D} {m : D} {i : Nat} {v : Value} {h' : Heap} {bs : List Addr} (I : Inv X pins σ H s) (rv : Vals ys its) (hr : RepL X.K H ys (x :: xs)) (hf : frozenL (x :: xs) = true)
    (hv : its.toArray[i]? = some v) (rd : Reads h' v m bs) (hk : ∀ b o, s.heap.get? b = some o → h'.get? b = some o) (hm : m ∈ x :: xs) : ∃ y, RelV y v ∧ Rep X.K H y m := by
  have hv' : its[i]? = some v := by simpa using hv
  have hlt : i < its.length := (List.getElem?_eq_some_iff.mp hv').1
  have hly : i < ys.length := by rw [rv.length]; exact hlt
  obtain ⟨u, hu, ru⟩ := rv.get (List.getElem?_eq_getElem hly)
  rw [hv'] at hu; cases hu
  obtain ⟨d, hd, rd2⟩ := hr.get (List.getElem?_eq_getElem hly)
  have fd : frozen d = true := frozenL_mem hf (List.mem_of_getElem? hd)
  obtain ⟨as, q⟩ := rd2.reads I ru (frozen_plain fd)
  have q' := PyProof.Rows.Reads.keeps hk q
  have fm : frozen m = true := frozenL_mem hf hm
  have e := SeqAt.plain_unique m d v bs as (frozen_plain fm) rd q'
  subst e
  exact ⟨_, ru, rd2⟩
theorem r_min (hu : X.A.units + 64 < cLine) (hc : X.calm = true) : CallR X (.builtin "min") (rMM X.K W.minD) := by
  intro pins s σ H vs us Q I r h
  obtain ⟨a, ys, x, xs, rfl, hs, hr, ok, q⟩ := h
  simp only [okMM, Bool.and_eq_true, decide_eq_true_eq] at ok
  obtain ⟨⟨⟨h1, h2⟩, h3⟩, h4⟩ := ok
  rw [Vals.ref1 r]
  have hm : W.minD x xs ∈ x :: xs := foldMM (fun a y => W.dataLt y a) xs x
  rcases hs with hs | hs
  · obtain ⟨its, rv, hl, _⟩ := I.list hs
    obtain ⟨as, ra⟩ := hr.reads I rv (frozenL_plain h3)
    refine W.min_list_data (I.ok.hd hc) hl.isList ra (alikeOf h1 h2) (by omega) fun i v h' tk bs hv rd hk => ?_
    obtain ⟨y, ry, rp⟩ := mmEnd I rv hr h3 hv rd hk hm
    exact ⟨y, H, I.kept hk, ry, q y rp⟩
  · obtain ⟨its, rv, hl, _⟩ := I.tuple hs
    obtain ⟨as, ra⟩ := hr.reads I rv (frozenL_plain h3)
    refine W.min_tuple_data (I.ok.hd hc) hl ra (alikeOf h1 h2) (by omega) fun i v h' tk bs hv rd hk => ?_
    obtain ⟨y, ry, rp⟩ := mmEnd I rv hr h3 hv rd hk hm
    exact ⟨y, H, I.kept hk, ry, q y rp⟩
theorem r_max (hu : X.A.units + 64 < cLine) (hc : X.calm = true) : CallR X (.builtin "max") (rMM X.K W.maxD) := by
  intro pins s σ H vs us Q I r h
  obtain ⟨a, ys, x, xs, rfl, hs, hr, ok, q⟩ := h
  simp only [okMM, Bool.and_eq_true, decide_eq_true_eq] at ok
  obtain ⟨⟨⟨h1, h2⟩, h3⟩, h4⟩ := ok
  rw [Vals.ref1 r]
  have hm : W.maxD x xs ∈ x :: xs := foldMM (fun a y => W.dataLt a y) xs x
  rcases hs with hs | hs
  · obtain ⟨its, rv, hl, _⟩ := I.list hs
    obtain ⟨as, ra⟩ := hr.reads I rv (frozenL_plain h3)
    refine W.max_list_data (I.ok.hd hc) hl.isList ra (alikeOf h1 h2) (by omega) fun i v h' tk bs hv rd hk => ?_
    obtain ⟨y, ry, rp⟩ := mmEnd I rv hr h3 hv rd hk hm
    exact ⟨y, H, I.kept hk, ry, q y rp⟩
  · obtain ⟨its, rv, hl, _⟩ := I.tuple hs
    obtain ⟨as, ra⟩ := hr.reads I rv (frozenL_plain h3)
    refine W.max_tuple_data (I.ok.hd hc) hl ra (alikeOf h1 h2) (by omega) fun i v h' tk bs hv rd hk => ?_
    obtain ⟨y, ry, rp⟩ := mmEnd I rv hr h3 hv rd hk hm
    exact ⟨y, H, I.kept hk, ry, q y rp⟩
def rMin2 : List V → Hp → VK → Prop := fun xs H Q => ∃ i j, xs = [.int i, .int j] ∧ Q (.int (if j < i then j else i)) H
def rMax2' : List V → Hp → VK → Prop := fun xs H Q => ∃ i j, xs = [.int i, .int j] ∧ Q (.int (if j > i then j else i)) H
theorem c_min {K : PySem.W.Frag} (hu : X.A.units + 64 < cLine) (hc : X.calm = true := by rfl) (hK : X.K = K := by rfl) : CallP X (.builtin "min") (fun xs H Q => rMM K W.minD xs H Q ∨ rMin2 xs H Q) gMin := by
  subst hK
  refine ⟨CallR.or (r_min hu hc) (call_min2 hc), fun vs ds z H Q r q k => ?_⟩
  unfold gMin at q
  split at q
  · obtain ⟨v, rfl, rv1⟩ := rep1 r
    split at q
    · rename_i ok
      cases q
      have hf := okMM_frz ok
      cases rv1 with
      | lst h r => exact .inl ⟨_, _, _, _, rfl, .inl (SqL.of h), r, ok, fun v rv => k v H (Same.refl H) (New.frz rv (frozenL_mem hf (foldMM (fun a y => W.dataLt y a) _ _)))⟩
    · cases q
  · obtain ⟨v, rfl, rv1⟩ := rep1 r
    split at q
    · rename_i ok
      cases q
      have hf := okMM_frz ok
      cases rv1 with
      | tup h r => exact .inl ⟨_, _, _, _, rfl, .inr h, r, ok, fun v rv => k v H (Same.refl H) (New.frz rv (frozenL_mem hf (foldMM (fun a y => W.dataLt y a) _ _)))⟩
    · cases q
  · obtain ⟨v, u, rfl, r1, r2⟩ := rep2 r
    cases q; cases r1; cases r2
    exact .inr ⟨_, _, rfl, k _ H (Same.refl H) newInt⟩
  · cases q
theorem c_max {K : PySem.W.Frag} (hu : X.A.units + 64 < cLine) (hc : X.calm = true := by rfl) (hK : X.K = K := by rfl) : CallP X (.builtin "max") (fun xs H Q => rMM K W.maxD xs H Q ∨ rMax2' xs H Q) gMax := by
  subst hK
  refine ⟨CallR.or (r_max hu hc) (call_max2 hc), fun vs ds z H Q r q k => ?_⟩
  unfold gMax at q
  split at q
  · obtain ⟨v, rfl, rv1⟩ := rep1 r
    split at q
    · rename_i ok
      cases q
      have hf := okMM_frz ok
      cases rv1 with
      | lst h r => exact .inl ⟨_, _, _, _, rfl, .inl (SqL.of h), r, ok, fun v rv => k v H (Same.refl H) (New.frz rv (frozenL_mem hf (foldMM (fun a y => W.dataLt a y) _ _)))⟩
    · cases q
  · obtain ⟨v, rfl, rv1⟩ := rep1 r
    split at q
    · rename_i ok
      cases q
      have hf := okMM_frz ok
      cases rv1 with
      | tup h r => exact .inl ⟨_, _, _, _, rfl, .inr h, r, ok, fun v rv => k v H (Same.refl H) (New.frz rv (frozenL_mem hf (foldMM (fun a y => W.dataLt a y) _ _)))⟩
    · cases q
  · obtain ⟨v, u, rfl, r1, r2⟩ := rep2 r
    cases q; cases r1; cases r2
    exact .inr ⟨_, _, rfl, k _ H (Same.refl H) newInt⟩
  · cases q
end
end Pd

set_option Elab.async false
set_option linter.all false
set_option maxRecDepth 100000
set_option maxHeartbeats 4000000
/-! Pd4: isinstance, subscripts, slices, ranges as lists, truth, comprehensions, what is walked, calls of defs. -/
namespace Pd
open PySem PySem.Spec PyProof.Rows L2

/-! ### isinstance -/
def tyName : D → String
  | .none => "NoneType"
  | .bool _ => "bool"
  | .int _ => "int"
  | .str _ => "str"
  | .list _ => "list"
  | .tuple _ => "tuple"
  | .dict _ => "dict"
def isaD (T : String) (d : D) : Bool := tyName d == T || (T == "int" && tyName d == "bool")
def isaOk (T : String) : Bool := ["NoneType", "bool", "int", "str", "list", "tuple"].all fun n => kitB n T == some (n == T || (T == "int" && n == "bool"))
def notDict : D → Bool
  | .dict _ => false
  | _ => true
theorem Rep.ty {K : PySem.W.Frag} {H : Hp} {v : V} {d : D} (r : Rep K H v d) (h : notDict d = true) : TyX K H v (.type (tyName d)) := by
  cases r with
  | non => exact .base .non
  | bl b => exact .base (.bl b)
  | int i => exact .base (.int i)
  | str x => exact .base (.str x)
  | lst h1 r => exact .base (.lst h1)
  | tup h1 r =>
    rcases h1 with (h1 | ⟨o, h1⟩) | ⟨o, its, n, h1, hc, _⟩
    · exact .base (.tup h1)
    · exact .fTuple h1
    · exact .kTuple h1 hc
  | dic h1 k r e => simp [notDict] at h
  | scr h1 r => simp [notDict] at h
theorem isa_ok {T : String} (hT : isaOk T = true) {d : D} (h : notDict d = true) : kitB (tyName d) T = some (isaD T d) := by
  unfold isaOk at hT
  rw [List.all_eq_true] at hT
  have mem : tyName d ∈ ["NoneType", "bool", "int", "str", "list", "tuple"] := by cases d <;> simp [tyName, notDict] at *
  exact eq_of_beq (hT _ mem)
def gIsa (T : String) : D → Option D := fun d => if notDict d then some (.bool (isaD T d)) else none
section
variable {X : Cx} {a : Expr} {ta : TE} {fa : FE} {p p2 pos : Pos}
theorem pf_isa {T : String} {Tn : Str} (hm : X.mg "isinstance" = none) (hmT : X.mg Tn = none) (ha : PP X a ta fa) (hT : isaOk T = true := by decide +kernel) (hvT : bootBuiltins Tn = some (.type T) := by decide +kernel) (hg : Gl X "isinstance" := by rfl) (hgT : Gl X Tn := by rfl)
    (hnT : Tn ≠ "__name__" := by decide) (hdT : (Tn == ("__debug__" : Str)) = false := by decide)
    (he : starEach (a :: [.Name Tn p2]) X.env = (false, eval a X.env) :: starEach [.Name Tn p2] X.env := by rfl) (hpl : (backTo pos (starEach [.Name Tn p2] X.env)).any (·.1) = false := by rfl)
    (he2 : starEach [.Name Tn p2] X.env = (false, eval (.Name Tn p2) X.env) :: starEach [] X.env := by rfl) : PF X (.Call (.Name "isinstance" p) [a, .Name Tn p2] [] pos) (tCB (rIsi X.K) (tCons ta (tCons (tC (.ty T)) tNil))) (e1 (gIsa T) fa) := by
  refine ⟨pe_callB call_isi hg hm (by decide +kernel) (pa_cons ha.pe (pa_cons (pe_bltn hgT hmT hvT rfl hnT hdT) pa_nil he2) he) (by decide) (by decide) he hpl, fun ε σ H d Q ok q k => ?_⟩
  obtain ⟨x, q1, q3⟩ := bindSome q
  refine ha.so ε σ H x _ ok q1 fun v H1 s1 r1 => ?_
  unfold gIsa at q3
  split at q3
  · rename_i hd
    cases q3
    exact ⟨v, .ty T, .type (tyName x), .type T, isaD T x, rfl, .ty T, r1.ty hd, kit_ty (isa_ok hT hd), k _ H1 s1 (newBl.back s1)⟩
  · cases q3

/-! ### subscripts -/
def gIx (d i : D) : Option D := match d, i with
  | .list xs, .int i => atI xs i
  | .tuple xs, .int i => atI xs i
  | .str z, .int i => if z.length ≤ cap then (atI z.cps.toList i).map fun c => .str ⟨#[c]⟩ else none
  | _, _ => none
theorem atRep {K : PySem.W.Frag} {H : Hp} {xs : List V} {ds : List D} {i : Int} {d : D} (r : RepL K H xs ds) (h : atI ds i = some d) : ∃ v, atI xs i = some v ∧ Rep K H v d := by
  unfold atI at h ⊢
  rw [← r.length] at h
  obtain ⟨j, e, h⟩ := Option.bind_eq_some_iff.mp h
  obtain ⟨v, hv, q⟩ := r.getD h
  exact ⟨v, by rw [e]; exact hv, q⟩
theorem pp_ix {K : PySem.W.Frag} {b : Expr} {tb : TE} {fb : FE} (ha : PP X a ta fa) (hb : PP X b tb fb) (hs : PlainIx b := by exact fun _ _ => rfl) (hK : X.K = K := by rfl) : PP X (.Subscript a b pos) (tOp (rIx K) ta tb) (e2 gIx fa fb) := by
  subst hK
  refine ⟨pe_ix ix_seq ha.pe hb.pe hs, fun ε σ H d Q ok q k => ?_⟩
  obtain ⟨x, q1, q⟩ := bindSome q
  obtain ⟨y, q2, q3⟩ := bindSome q
  refine ha.so ε σ H x _ ok q1 fun v H1 s1 r1 => ?_
  refine hb.so ε σ H1 y _ (ok.same s1) q2 fun u H2 s2 r2 => ?_
  have r1 := r1.mono (smOf s2)
  unfold gIx at q3
  split at q3
  · cases r2
    cases r1 with
    | lst h r =>
      obtain ⟨w, hw, rw'⟩ := atRep r q3
      exact .inl ⟨_, _, _, w, rfl, rfl, SqL.of h, hw, k w H2 (s1.trans s2) rw'⟩
  · cases r2
    cases r1 with
    | tup h r =>
      obtain ⟨w, hw, rw'⟩ := atRep r q3
      exact .inr (.inl ⟨_, _, _, w, rfl, rfl, h, hw, k w H2 (s1.trans s2) rw'⟩)
  · cases r2
    cases r1
    split at q3
    · rename_i hl
      obtain ⟨c, hc, rfl⟩ := Option.map_eq_some_iff.mp q3
      exact .inr (.inr ⟨_, _, c, rfl, rfl, cap_le hl, hc, k _ H2 (s1.trans s2) (.str _)⟩)
    · cases q3
  · cases q3

/-! ### slices -/
def cutL {α : Type} (xs : List α) (lo hi : Option Int) : List α := (xs.drop (HT.sIx xs.length 0 lo)).take (HT.sIx xs.length xs.length hi - HT.sIx xs.length 0 lo)
theorem RepL.cut {K : PySem.W.Frag} {H : Hp} {xs : List V} {ds : List D} (r : RepL K H xs ds) (lo hi : Option Int) : RepL K H (cutV xs lo hi) (cutL ds lo hi) := by
  unfold cutV cutL
  rw [r.length]
  exact (r.drop _).take _
theorem cutL_mem {α : Type} {xs : List α} {lo hi : Option Int} {x : α} (h : x ∈ cutL xs lo hi) : x ∈ xs := List.mem_of_mem_drop (List.mem_of_mem_take h)
theorem frozenL_of {xs ys : List D} (h : frozenL xs = true) (hs : ∀ d ∈ ys, d ∈ xs) : frozenL ys = true := by
  rw [frozenL_all, List.all_eq_true]
  exact fun d hd => frozenL_mem h (hs d hd)
theorem Rep.script {K : PySem.W.Frag} {H : Hp} {v : V} {ds : List D} (r : Rep K H v (.dict [(.bool true, .list ds)])) : ∃ a xs, v = .ref a ∧ SqL K H a xs ∧ RepL K H xs ds := by
  cases r with
  | scr h r => exact ⟨_, _, rfl, h, r⟩
  | @dic _ _ _ _ es _ h k r e =>
    cases k with
    | k kvs =>
      cases kvs with
      | nil => simp at e
      | cons p kvs =>
        cases es with
        | nil => simp at e
        | cons _ _ =>
          rcases p with ⟨p | p, _⟩ <;> simp [kD] at e
    | t kvs =>
      cases es with
      | nil => simp at e
      | cons _ _ => simp at e
def gSl (d : D) (lo hi : Option Int) : Option D := match d with
  | .dict [(.bool true, .list xs)] => if frozenL xs then some (.list (cutL xs lo hi)) else none
  | .list xs => if frozenL xs then some (.list (cutL xs lo hi)) else none
  | .tuple xs => if frozenL xs then some (.tuple (cutL xs lo hi)) else none
  | _ => none
abbrev FO := En → Option (Option Int)
def OSo (K : PySem.W.Frag) (t : TO) (f : FO) : Prop := ∀ (ε : En) (σ : L2.St) (H : Hp) (o : Option Int) (Q : Option Int → Hp → Prop), OkR K ε σ H → f ε = some o → (∀ H', Same H H' → Q o H') → t σ H Q
structure POr (X : Cx) (e : Option Expr) (t : TO) (f : FO) : Prop where
  po : PO X e t
  so : OSo X.K t f
def oNone : FO := fun _ => some none
def toI : D → Option Int
  | .int i => some i
  | _ => none
def oSome (f : FE) : FO := fun ε => (f ε).bind fun d => (toI d).map some
theorem or_none : POr X none tNoPart oNone := ⟨po_none, fun ε σ H o Q ok q k => by cases q; exact k H (Same.refl H)⟩
theorem or_some (ha : PP X a ta fa) : POr X (some a) (tPart ta) (oSome fa) := by
  refine ⟨po_some ha.pe, fun ε σ H o Q ok q k => ?_⟩
  obtain ⟨x, q1, q⟩ := bindSome q
  refine ha.so ε σ H x _ ok q1 fun v H1 s1 r1 => ?_
  cases r1 with
  | int i => cases q; exact ⟨i, rfl, k H1 s1⟩
  | _ => simp [toI] at q
def eSl (f : FE) (lo hi : FO) : FE := fun ε => (f ε).bind fun d => (lo ε).bind fun l => (hi ε).bind fun h => gSl d l h
theorem tupCut {K : PySem.W.Frag} {H H3 : Hp} {a' : Addr} {ys : List V} {ds : List D} {l h : Option Int} {Q : VK} (hx : SqT K H3 a' ys) (r : RepL K H3 ys ds) (hf : frozenL ds = true) (s : Same H H3) (k : ∀ v H', Same H H' → New K H H' v (.tuple (cutL ds l h)) → Q v H') :
    rSlL K (.ref a') l h H3 Q ∨ rSlA K (.ref a') l h H3 Q := by
  have fz : frozenL (cutL ds l h) = true := frozenL_of hf fun d hd => cutL_mem hd
  refine .inr ⟨_, _, rfl, hx, fun hw => ?_, fun _ p hp => k _ _ (s.trans (sameNew hp _)) ((New.tup (H := H3) (NewL.frz (r.cut l h) fz) hp).back s)⟩
  have e : cutL ds l h = ds := by
    unfold cutL
    rw [← r.length, hw.1, hw.2, List.drop_zero, Nat.sub_zero, r.length, List.take_length]
  rw [e] at k
  exact k _ H3 s (New.frz (.tup hx r) (by simpa [frozen] using hf))
theorem pf_sl {K : PySem.W.Frag} {lo hi : Option Expr} {tl th : TO} {fl fh : FO} {p2 : Pos} (ha : PP X a ta fa) (hl : POr X lo tl fl) (hh : POr X hi th fh) (hK : X.K = K := by rfl) :
    PF X (.Subscript a (.Slice lo hi none p2) pos) (tSl (fun x l h H Q => rSlL K x l h H Q ∨ rSlA K x l h H Q) ta tl th) (eSl fa fl fh) := by
  subst hK
  refine ⟨pe_slice (SlR.or sl_list sl_tupA) ha.pe hl.po hh.po, fun ε σ H d Q ok q k => ?_⟩
  obtain ⟨x, q1, q⟩ := bindSome q
  obtain ⟨l, q2, q⟩ := bindSome q
  obtain ⟨h, q3, q4⟩ := bindSome q
  refine ha.so ε σ H x _ ok q1 fun v H1 s1 r1 => ?_
  refine hl.so ε σ H1 l _ (ok.same s1) q2 fun H2 s2 => ?_
  refine hh.so ε σ H2 h _ (ok.same (s1.trans s2)) q3 fun H3 s3 => ?_
  have s := (s1.trans s2).trans s3
  have r := r1.mono (smOf (s2.trans s3))
  unfold gSl at q4
  split at q4
  · split at q4
    · rename_i hf
      cases q4
      obtain ⟨a, xs, rfl, hx, r⟩ := r.script
      exact .inl ⟨_, _, rfl, hx, fun p hp => k _ _ (s.trans (sameNew hp _)) (New.lst (NewL.frz (r.cut l h) (frozenL_of hf fun d hd => cutL_mem hd)) s hp)⟩
    · cases q4
  · split at q4
    · rename_i hf
      cases q4
      cases r with
      | lst hx r => exact .inl ⟨_, _, rfl, SqL.of hx, fun p hp => k _ _ (s.trans (sameNew hp _)) (New.lst (NewL.frz (r.cut l h) (frozenL_of hf fun d hd => cutL_mem hd)) s hp)⟩
    · cases q4
  · split at q4
    · rename_i hf
      cases q4
      cases r with
      | tup hx r => exact tupCut hx r hf s k
    · cases q4
  · cases q4

/-! ### list(range(..)), tuple(range(..)) -/
def rgD (a b : Int) : List D := (List.range (b - a).toNat).map fun i => .int (a + (i : Nat))
theorem rep_rg {K : PySem.W.Frag} {H : Hp} (a b : Int) : RepL K H (rgV a b) (rgD a b) := by
  unfold rgV rgD
  generalize List.range (b - a).toNat = l
  induction l with
  | nil => exact .nil
  | cons x r ih => exact .cons (.int _) ih
theorem frz_rg (a b : Int) : frozenL (rgD a b) = true := by
  unfold rgD
  rw [frozenL_all, List.all_eq_true]
  intro d hd
  obtain ⟨i, _, rfl⟩ := List.mem_map.mp hd
  rfl
/-- small bounds; decided classically, so that no check counts down from a million -/
noncomputable def rgOk (a b : Int) : Bool := @decide (-1000000 ≤ a ∧ a ≤ 1000000 ∧ -1000000 ≤ b ∧ b ≤ 1000000) (Classical.propDecidable _)
theorem rgOk_iff {a b : Int} : rgOk a b = true ↔ -1000000 ≤ a ∧ a ≤ 1000000 ∧ -1000000 ≤ b ∧ b ≤ 1000000 := @decide_eq_true_iff _ (Classical.propDecidable _)
theorem rgOk_of {a b : Int} (h : rgOk a b = true) : RgOk a b := by
  rw [rgOk_iff] at h
  exact ⟨by omega, by omega, by omega, by omega, by omega⟩
abbrev FR := En → Option (Int × Int)
def RSo (K : PySem.W.Frag) (t : L2.St → Hp → (Int → Int → Hp → Prop) → Prop) (f : FR) : Prop := ∀ (ε : En) (σ : L2.St) (H : Hp) (o : Int × Int) (Q : Int → Int → Hp → Prop), OkR K ε σ H → f ε = some o → (∀ H', Same H H' → Q o.1 o.2 H') → t σ H Q
structure PRr (X : Cx) (e : Expr) (t : L2.St → Hp → (Int → Int → Hp → Prop) → Prop) (f : FR) : Prop where
  pr : PRg X e t
  so : RSo X.K t f
def rg1 (f : FE) : FR := fun ε => (f ε).bind fun d => (toI d).bind fun n => some (0, n)
def rg2 (f g : FE) : FR := fun ε => (f ε).bind fun d => (g ε).bind fun e => (toI d).bind fun n => (toI e).bind fun m => some (n, m)
theorem toI_some {d : D} {i : Int} (h : toI d = some i) : d = .int i := by cases d <;> simp [toI] at h; rw [h]
theorem rr_1 (hm : X.mg "range" = none) (ha : PP X a ta fa) (hg : Gl X "range" := by rfl) (na : starEach [a] X.env = (false, eval a X.env) :: starEach [] X.env := by rfl) : PRr X (.Call (.Name "range" p) [a] [] pos) (tRg1 ta) (rg1 fa) := by
  refine ⟨prg_1 hg hm ha.pe na, fun ε σ H o Q ok q k => ?_⟩
  obtain ⟨x, q1, q⟩ := bindSome q
  obtain ⟨n, q2, q⟩ := bindSome q
  cases q
  have := toI_some q2
  subst this
  refine ha.so ε σ H _ _ ok q1 fun v H1 s1 r1 => ?_
  cases r1
  exact ⟨n, rfl, k H1 s1⟩
theorem rr_2 {b : Expr} {tb : TE} {fb : FE} (hm : X.mg "range" = none) (ha : PP X a ta fa) (hb : PP X b tb fb) (hg : Gl X "range" := by rfl) (na : starEach [a, b] X.env = (false, eval a X.env) :: starEach [b] X.env := by rfl) (nb : starEach [b] X.env = (false, eval b X.env) :: starEach [] X.env := by rfl) (hp : (backTo pos (starEach [b] X.env)).any (·.1) = false := by rfl) :
    PRr X (.Call (.Name "range" p) [a, b] [] pos) (tRg2 ta tb) (rg2 fa fb) := by
  refine ⟨prg_2 hg hm ha.pe hb.pe na nb hp, fun ε σ H o Q ok q k => ?_⟩
  obtain ⟨x, q1, q⟩ := bindSome q
  obtain ⟨y, q2, q⟩ := bindSome q
  obtain ⟨n, q3, q⟩ := bindSome q
  obtain ⟨m, q4, q⟩ := bindSome q
  cases q
  have := toI_some q3
  subst this
  have := toI_some q4
  subst this
  refine ha.so ε σ H _ _ ok q1 fun v H1 s1 r1 => ?_
  refine hb.so ε σ H1 _ _ (ok.same s1) q2 fun u H2 s2 r2 => ?_
  cases r1
  cases r2
  exact ⟨n, m, rfl, rfl, k H2 (s1.trans s2)⟩
noncomputable def eLrg (f : FR) : FE := fun ε => (f ε).bind fun o => if rgOk o.1 o.2 then some (.list (rgD o.1 o.2)) else none
noncomputable def eTrg (f : FR) : FE := fun ε => (f ε).bind fun o => if rgOk o.1 o.2 then some (.tuple (rgD o.1 o.2)) else none
variable {t : L2.St → Hp → (Int → Int → Hp → Prop) → Prop} {f : FR}
theorem pf_lrg (hm : X.mg "list" = none) (he : PRr X a t f) (hc : X.calm = true := by rfl) (hg : Gl X "list" := by rfl) (na : starEach [a] X.env = (false, eval a X.env) :: starEach [] X.env := by rfl) : PF X (.Call (.Name "list" p) [a] [] pos) (tLstRg t) (eLrg f) := by
  refine ⟨pe_listRg hc hg hm he.pr na, fun ε σ H d Q ok q k => ?_⟩
  obtain ⟨o, q1, q⟩ := bindSome q
  split at q
  · rename_i h
    cases q
    exact he.so ε σ H o _ ok q1 fun H1 s1 => ⟨rgOk_of h, fun p hp => k _ _ (s1.trans (sameNew hp _)) (New.lst (NewL.frz (rep_rg _ _) (frz_rg _ _)) s1 hp)⟩
  · cases q
theorem pf_trg (hm : X.mg "tuple" = none) (he : PRr X a t f) (hc : X.calm = true := by rfl) (hg : Gl X "tuple" := by rfl) (na : starEach [a] X.env = (false, eval a X.env) :: starEach [] X.env := by rfl) : PF X (.Call (.Name "tuple" p) [a] [] pos) (tTupRg t) (eTrg f) := by
  refine ⟨pe_tupRg hc hg hm he.pr na, fun ε σ H d Q ok q k => ?_⟩
  obtain ⟨o, q1, q⟩ := bindSome q
  split at q
  · rename_i h
    cases q
    exact he.so ε σ H o _ ok q1 fun H1 s1 => ⟨rgOk_of h, fun p hp => k _ _ (s1.trans (sameNew hp _)) ((New.tup (H := H1) (NewL.frz (rep_rg _ _) (frz_rg _ _)) hp).back s1)⟩
  · cases q
end

/-! ### truth values -/
def toB : D → Option Bool
  | .bool b => some b
  | _ => none
def tst (f : FE) : En → Option Bool := fun ε => (f ε).bind toB
theorem toB_some {d : D} {i : Bool} (h : toB d = some i) : d = .bool i := by cases d <;> simp [toB] at h; rw [h]
section
variable {X : Cx} {a b c : Expr} {ta tb tc : TE} {fa fb fc : FE} {p pos : Pos} {tA tB' : TT} {ga gb : En → Option Bool} {rest : List Expr}
theorem so_tB {K : PySem.W.Frag} {t : TE} {f : FE} (h : PSo K t f) : TSo K (tB t) (tst f) := by
  intro ε σ H b Q ok q k
  obtain ⟨x, q1, q⟩ := bindSome q
  have := toB_some q
  subst this
  refine h ε σ H _ _ ok q1 fun v H1 s1 r1 => ?_
  cases r1
  exact ⟨b, rfl, k H1 s1⟩
/-- a name, a call, a subscript as a test (its value True or False) -/
theorem tt_val (ha : PP X a ta fa) (he : ∀ whole, isTrue a X.env whole = (do let v ← whole; standAt a.pos; holding [v] (truthy v)) := by intro _; rfl) : PTt X a (tB ta) (tst fa) :=
  ⟨pt_val ha.pe he, so_tB ha.so⟩
theorem tt_cmp {op : CmpOp} {r : R2} {g : D → D → Option D} (o : OpP X (compareOp op) r g) (ha : PP X a ta fa) (hb : PP X b tb fb) (hm : behindInMarks op b = false := by first | exact nomark _ | rfl) : PTt X (.Compare a [op] [b] pos) (tTest (tOp r ta tb)) (tst (e2 g fa fb)) :=
  ⟨pt_cmpR o.op ha.pe hb.pe hm, fun ε σ H b Q ok q k => so_tB (K := X.K) (t := tOp r ta tb) (f := e2 g fa fb) (fun ε σ H d Q ok q k => so_op o.v ha.so hb.so ε σ H d Q ok q fun v H' s n => k v H' s n.rep) ε σ H b Q ok q k⟩
def bNot (f : En → Option Bool) : En → Option Bool := fun ε => (f ε).map (!·)
def bAnd (f g : En → Option Bool) : En → Option Bool := fun ε => (f ε).bind fun x => if x then g ε else some false
def bOr (f g : En → Option Bool) : En → Option Bool := fun ε => (f ε).bind fun x => if x then some true else g ε
theorem tt_not (ha : PTt X a tA ga) : PTt X (.UnaryOp .Not a pos) (tNot tA) (bNot ga) := by
  refine ⟨pt_not ha.pt, fun ε σ H b Q ok q k => ?_⟩
  obtain ⟨x, q1, rfl⟩ := Option.map_eq_some_iff.mp q
  exact ha.so ε σ H x _ ok q1 fun H1 s1 => k H1 s1
theorem tw_and1 (ha : PTt X a tA ga) : PWt X (.BoolOp .And [a] pos) tA ga := ⟨pw_and1 ha.pt, ha.so⟩
theorem tw_or1 (ha : PTt X a tA ga) : PWt X (.BoolOp .Or [a] pos) tA ga := ⟨pw_or1 ha.pt, ha.so⟩
theorem tw_and (ha : PTt X a tA ga) (hb : PWt X (.BoolOp .And (b :: rest) pos) tB' gb) : PWt X (.BoolOp .And (a :: b :: rest) pos) (tAnd tA tB') (bAnd ga gb) := by
  refine ⟨pw_and ha.pt hb.pw, fun ε σ H c Q ok q k => ?_⟩
  obtain ⟨x, q1, q⟩ := bindSome q
  refine ha.so ε σ H x _ ok q1 fun H1 s1 => ?_
  cases x with
  | true => exact hb.so ε σ H1 c Q (ok.same s1) q fun H2 s2 => k H2 (s1.trans s2)
  | false =>
    cases q
    exact k H1 s1
theorem tw_or (ha : PTt X a tA ga) (hb : PWt X (.BoolOp .Or (b :: rest) pos) tB' gb) : PWt X (.BoolOp .Or (a :: b :: rest) pos) (tOr tA tB') (bOr ga gb) := by
  refine ⟨pw_or ha.pt hb.pw, fun ε σ H c Q ok q k => ?_⟩
  obtain ⟨x, q1, q⟩ := bindSome q
  refine ha.so ε σ H x _ ok q1 fun H1 s1 => ?_
  cases x with
  | false => exact hb.so ε σ H1 c Q (ok.same s1) q fun H2 s2 => k H2 (s1.trans s2)
  | true =>
    cases q
    exact k H1 s1
/-! as values -/
def eAnd (f g : FE) : FE := fun ε => (f ε).bind fun d => (toB d).bind fun x => if x then g ε else some (.bool false)
def eOr (f g : FE) : FE := fun ε => (f ε).bind fun d => (toB d).bind fun x => if x then some (.bool true) else g ε
def eNot (f : FE) : FE := fun ε => (f ε).bind fun d => (toB d).map fun x => .bool (!x)
def eIf (c : En → Option Bool) (f g : FE) : FE := fun ε => (c ε).bind fun x => if x then f ε else g ε
theorem pf_one {op : BoolOp} (ha : PF X a ta fa) : PF X (.BoolOp op [a] pos) ta fa := ⟨pe_one ha.pe, ha.so⟩
theorem pf_and (ha : PP X a ta fa) (hb : PF X (.BoolOp .And (b :: rest) pos) tb fb) : PF X (.BoolOp .And (a :: b :: rest) pos) (tAndV ta tb) (eAnd fa fb) := by
  refine ⟨pe_and ha.pe hb.pe, fun ε σ H d Q ok q k => ?_⟩
  obtain ⟨x, q1, q⟩ := bindSome q
  obtain ⟨c, q2, q⟩ := bindSome q
  have := toB_some q2
  subst this
  refine ha.so ε σ H _ _ ok q1 fun v H1 s1 r1 => ?_
  cases r1
  refine ⟨c, rfl, ?_⟩
  cases c with
  | true => exact hb.so ε σ H1 d Q (ok.same s1) q fun w H2 s2 n => k w H2 (s1.trans s2) (n.back s1)
  | false =>
    cases q
    exact k _ H1 s1 (newBl.back s1)
theorem pf_or (ha : PP X a ta fa) (hb : PF X (.BoolOp .Or (b :: rest) pos) tb fb) : PF X (.BoolOp .Or (a :: b :: rest) pos) (tOrV ta tb) (eOr fa fb) := by
  refine ⟨pe_or ha.pe hb.pe, fun ε σ H d Q ok q k => ?_⟩
  obtain ⟨x, q1, q⟩ := bindSome q
  obtain ⟨c, q2, q⟩ := bindSome q
  have := toB_some q2
  subst this
  refine ha.so ε σ H _ _ ok q1 fun v H1 s1 r1 => ?_
  cases r1
  refine ⟨c, rfl, ?_⟩
  cases c with
  | false => exact hb.so ε σ H1 d Q (ok.same s1) q fun w H2 s2 n => k w H2 (s1.trans s2) (n.back s1)
  | true =>
    cases q
    exact k _ H1 s1 (newBl.back s1)
theorem pf_not (ha : PP X a ta fa) : PF X (.UnaryOp .Not a pos) (tNotV ta) (eNot fa) := by
  refine ⟨pe_not ha.pe, fun ε σ H d Q ok q k => ?_⟩
  obtain ⟨x, q1, q⟩ := bindSome q
  obtain ⟨c, q2, rfl⟩ := Option.map_eq_some_iff.mp q
  have := toB_some q2
  subst this
  refine ha.so ε σ H _ _ ok q1 fun v H1 s1 r1 => ?_
  cases r1
  exact ⟨c, rfl, k _ H1 s1 (newBl.back s1)⟩
theorem pf_if (hc : PTt X c tA ga) (ha : PF X a ta fa) (hb : PF X b tb fb) : PF X (.IfExp c a b pos) (tIf tA ta tb) (eIf ga fa fb) := by
  refine ⟨pe_ifExp hc.pt ha.pe hb.pe, fun ε σ H d Q ok q k => ?_⟩
  obtain ⟨x, q1, q⟩ := bindSome q
  refine hc.so ε σ H x _ ok q1 fun H1 s1 => ?_
  cases x with
  | true => exact ha.so ε σ H1 d Q (ok.same s1) q fun w H2 s2 n => k w H2 (s1.trans s2) (n.back s1)
  | false => exact hb.so ε σ H1 d Q (ok.same s1) q fun w H2 s2 n => k w H2 (s1.trans s2) (n.back s1)
theorem pp_if (hc : PTt X c tA ga) (ha : PP X a ta fa) (hb : PP X b tb fb) : PP X (.IfExp c a b pos) (tIf tA ta tb) (eIf ga fa fb) := by
  refine ⟨pe_ifExp hc.pt ha.pe hb.pe, fun ε σ H d Q ok q k => ?_⟩
  obtain ⟨x, q1, q⟩ := bindSome q
  refine hc.so ε σ H x _ ok q1 fun H1 s1 => ?_
  cases x with
  | true => exact ha.so ε σ H1 d Q (ok.same s1) q fun w H2 s2 n => k w H2 (s1.trans s2) n
  | false => exact hb.so ε σ H1 d Q (ok.same s1) q fun w H2 s2 n => k w H2 (s1.trans s2) n
/-! a < b < c -/
def eChain (g g' : D → D → Option D) (f h l : FE) : FE := fun ε => (f ε).bind fun x => (h ε).bind fun y => (g x y).bind fun z => (toB z).bind fun c => if c then (l ε).bind fun w => g' y w else some (.bool false)
theorem so_chain {K : PySem.W.Frag} {r r' : R2} {g g' : D → D → Option D} (o : OpV K r g) (o' : OpV K r' g') (ha : PSo K ta fa) (hb : PSo K tb fb) (hc : PSo K tc fc) : FSo K (tChain r r' ta tb tc) (eChain g g' fa fb fc) := by
  intro ε σ H d Q ok q k
  obtain ⟨x, q1, q⟩ := bindSome q
  obtain ⟨y, q2, q⟩ := bindSome q
  obtain ⟨z, q3, q⟩ := bindSome q
  obtain ⟨c, q4, qq⟩ := bindSome q
  have := toB_some q4
  subst this
  refine ha ε σ H x _ ok q1 fun v H1 s1 r1 => ?_
  refine hb ε σ H1 y _ (ok.same s1) q2 fun u H2 s2 r2 => ?_
  refine o v u x y _ H2 _ (r1.mono (smOf s2)) r2 q3 fun w H3 s3 n => ?_
  have rn := n.rep
  cases rn
  refine ⟨c, rfl, ?_⟩
  have s := (s1.trans s2).trans s3
  cases c with
  | true =>
    rw [if_pos rfl] at qq
    obtain ⟨w7, q5, q6⟩ := bindSome qq
    refine hc ε σ H3 w7 _ (ok.same s) q5 fun w' H4 s4 r4 => ?_
    exact o' u w' y w7 d H4 Q (r2.mono (smOf (s3.trans s4))) r4 q6 fun v5 H5 s5 n5 => k v5 H5 ((s.trans s4).trans s5) (n5.back (s.trans s4))
  | false =>
    cases qq
    exact k _ H3 s (newBl.back s)
theorem pf_chain {op op' : CmpOp} {r r' : R2} {g g' : D → D → Option D} (o : OpP X (compareOp op) r g) (o' : OpP X (compareOp op') r' g') (ha : PP X a ta fa) (hb : PP X b tb fb) (hc : PP X c tc fc) (hm : lastMarks [op, op'] [b, c] = false := by with_unfolding_all rfl) :
    PF X (.Compare a [op, op'] [b, c] pos) (tChain r r' ta tb tc) (eChain g g' fa fb fc) := ⟨pe_chain o.op o'.op ha.pe hb.pe hc.pe hm, so_chain o.v o'.v ha.so hb.so hc.so⟩
theorem tt_chain {op op' : CmpOp} {r r' : R2} {g g' : D → D → Option D} (o : OpP X (compareOp op) r g) (o' : OpP X (compareOp op') r' g') (ha : PP X a ta fa) (hb : PP X b tb fb) (hc : PP X c tc fc) (hm : lastMarks [op, op'] [b, c] = false := by with_unfolding_all rfl) :
    PTt X (.Compare a [op, op'] [b, c] pos) (tTest (tChain r r' ta tb tc)) (tst (eChain g g' fa fb fc)) :=
  ⟨pt_chain o.op o'.op ha.pe hb.pe hc.pe hm, fun ε σ H b Q ok q k => so_tB (K := X.K) (t := tChain r r' ta tb tc) (f := eChain g g' fa fb fc) (fun ε σ H d Q ok q k => so_chain o.v o'.v ha.so hb.so hc.so ε σ H d Q ok q fun v H' s n => k v H' s n.rep) ε σ H b Q ok q k⟩
end
end Pd

set_option Elab.async false
set_option linter.all false
set_option maxRecDepth 100000
set_option maxHeartbeats 4000000
/-! Pd5: what a for walks: enumerate and zip of lists, tuples, texts in any mix. -/
namespace Pd
open PySem PySem.Spec PyProof.Rows L2

/-! ### a source: a list, a tuple, a text -/
inductive Kd where
  | l (a : Addr)
  | t (a : Addr)
  | s (x : Str)
def Kd.v : Kd → V
  | .l a => .ref a
  | .t a => .ref a
  | .s x => .str x
def strV (x : Str) : List V := x.cps.toList.map fun c => V.str ⟨#[c]⟩
def Kd.items (K : PySem.W.Frag) (H : Hp) : Kd → List V → Prop
  | .l a, xs => SqL K H a xs
  | .t a, xs => SqT K H a xs
  | .s x, xs => xs = strV x
/-- its iterator -/
def Kd.itr : Kd → Tok → Heap → Addr → Nat → Prop
  | .l a, _, h, it, i => h.IsListIter it a i
  | .t a, _, h, it, i => h.IsTupleIter it a i
  | .s x, tk, h, it, i => h.IsStrIter it (strIterType x) x tk i
def Kd.adr : Kd → List Addr
  | .l a => [a]
  | .t a => [a]
  | .s _ => []
theorem Kd.itr_obj {k : Kd} {tk : Tok} {h : Heap} {it : Addr} {i : Nat} (st : k.itr tk h it i) : ∃ o, h.get? it = some o ∧ ∀ v, o.data ≠ .cell v := by
  cases k with
  | l a => obtain ⟨o, e, c, d⟩ := st; exact ⟨o, e, fun v z => by rw [d] at z; cases z⟩
  | t a => obtain ⟨o, e, c, d⟩ := st; exact ⟨o, e, fun v z => by rw [d] at z; cases z⟩
  | s x => obtain ⟨o, e, c, d⟩ := st; exact ⟨o, e, fun v z => by rw [d] at z; cases z⟩
theorem Kd.itr_at {k : Kd} {tk : Tok} {h h' : Heap} {it : Addr} {i : Nat} (st : k.itr tk h it i) (e : ∀ o, h.get? it = some o → h'.get? it = some o) : k.itr tk h' it i := by
  cases k with
  | l a => exact Heap.IsListIter.at st e
  | t a => exact Heap.IsTupleIter.at st e
  | s x => obtain ⟨o, q, c, d⟩ := st; exact ⟨o, e o q, c, d⟩
section
variable {X : Cx} {pins : List (Addr × Obj)} {σ : L2.St} {H : Hp} {s : Shared}
theorem items_inj (I : Inv X pins σ H s) {k : Kd} {xs ys : List V} (h : k.items X.K H xs) (h' : k.items X.K H ys) : xs = ys := by
  cases k with
  | l a => exact I.list_inj h h'
  | t a => exact I.tuple_inj h h'
  | s x => exact (show xs = strV x from h).trans (show ys = strV x from h').symm
theorem strV_get {x : Str} {i : Nat} {c : Nat} (h : x.cps[i]? = some c) : (strV x)[i]? = some (.str ⟨#[c]⟩) := by
  unfold strV
  rw [List.getElem?_map, Array.getElem?_toList, h]; rfl
/-- the library's word for its draws, here and now -/
theorem draws (I : Inv X pins σ H s) (hh : X.A.in1.handled = none) {k : Kd} {xs : List V} (h : k.items X.K H xs) (tk : Tok) (it : Addr) (hne : ∀ a ∈ k.adr, a ≠ it) :
    ∃ (P : Nat → Value → Prop) (St : Nat → Heap → Prop), Draws X.prog X.w X.A.in1 it (it :: k.adr) xs.length P St ∧ (∀ i, k.itr tk s.heap it i → St i s.heap) ∧ (∀ i h', St i h' → k.itr tk h' it i) ∧ ∀ i v, P i v → ∃ x, xs[i]? = some x ∧ RelV x v := by
  cases k with
  | l a =>
    obtain ⟨its, rv, p, _⟩ := I.list h
    have hl := rv.length
    refine ⟨fun i v => its.toArray[i]? = some v, fun i h => h.IsListIter it a i ∧ h.IsList a its.toArray, by rw [hl]; exact Draws.list hh it a (hne a (by simp [Kd.adr])) its.toArray, fun i st => ⟨st, p.isList⟩, fun i h' st => st.1, fun i v hv => ?_⟩
    have hv : its[i]? = some v := by simpa using hv
    have hi : i < xs.length := by rw [hl]; exact (List.getElem?_eq_some_iff.mp hv).1
    obtain ⟨u, hu, ru⟩ := rv.get (List.getElem?_eq_getElem hi)
    rw [hv] at hu; cases hu
    exact ⟨_, List.getElem?_eq_getElem hi, ru⟩
  | t a =>
    obtain ⟨its, rv, p, _⟩ := I.tuple h
    have hl := rv.length
    refine ⟨fun i v => its.toArray[i]? = some v, fun i h => h.IsTupleIter it a i ∧ h.IsTuple a its.toArray, by rw [hl]; exact Draws.tuple hh it a (hne a (by simp [Kd.adr])) its.toArray, fun i st => ⟨st, p⟩, fun i h' st => st.1, fun i v hv => ?_⟩
    have hv : its[i]? = some v := by simpa using hv
    have hi : i < xs.length := by rw [hl]; exact (List.getElem?_eq_some_iff.mp hv).1
    obtain ⟨u, hu, ru⟩ := rv.get (List.getElem?_eq_getElem hi)
    rw [hv] at hu; cases hu
    exact ⟨_, List.getElem?_eq_getElem hi, ru⟩
  | s x =>
    have h : xs = strV x := h
    subst h
    have hl : (strV x).length = x.cps.size := by simp [strV]
    exact ⟨fun i v => ∃ c u, x.cps[i]? = some c ∧ v = .str ⟨#[c]⟩ u, fun i h => h.IsStrIter it (strIterType x) x tk i, by rw [hl]; exact Draws.text hh it x tk, fun i st => st, fun i h' st => st, fun i v ⟨c, u, hc, e⟩ => ⟨_, strV_get hc, by rw [e]; exact ⟨u, rfl⟩⟩⟩
/-- its iterator begins -/
theorem begins (I : Inv X pins σ H s) {k : Kd} {xs : List V} (h : k.items X.K H xs) {v : Value} (r : RelV k.v v) :
    ∃ (o : Obj) (Hp : Heap → Prop) (tk : Tok), Begins v o Hp ∧ Hp s.heap ∧ (∀ (h' : Heap) (it : Addr), h'.get? it = some o → k.itr tk h' it 0) ∧ ∀ a ∈ k.adr, a < s.heap.objs.size := by
  cases k with
  | l a =>
    obtain ⟨its, rv, p, _⟩ := I.list h
    cases r
    exact ⟨_, _, 0, begins_list a its.toArray, p.isList, fun h' it e => ⟨_, e, rfl, rfl⟩, fun b hb => by rw [Kd.adr, List.mem_singleton] at hb; subst hb; exact p.lt⟩
  | t a =>
    obtain ⟨its, rv, p, _⟩ := I.tuple h
    cases r
    obtain ⟨o1, ho1, _⟩ := id p
    exact ⟨_, _, 0, begins_tuple a its.toArray, p, fun h' it e => ⟨_, e, rfl, rfl⟩, fun b hb => by rw [Kd.adr, List.mem_singleton] at hb; subst hb; exact Heap.lt_size ho1⟩
  | s x =>
    obtain ⟨t, rfl⟩ := r
    exact ⟨_, _, t, begins_text x t, trivial, fun h' it e => ⟨_, e, rfl, rfl⟩, fun b hb => by simp [Kd.adr] at hb⟩
end

/-! ### enumerate -/
def IteG (K : PySem.W.Frag) (k : Kd) : It :=
  ⟨fun i H => ∃ (xs : List V) (x : V), k.items K H xs ∧ xs[i]? = some x, fun i H v H' => ∃ T x, v = .ref T ∧ H T = none ∧ H' = upd H T (.tup [.int (i : Nat), x]) ∧ ∀ xs, k.items K H xs → xs[i]? = some x, fun i H => ∃ xs : List V, k.items K H xs ∧ xs.length = i⟩
theorem turn_enumG {P : Program} {w : World} {K : PySem.W.Frag} {elts : List Expr} {kk : Nat} {tpos : Pos} (k : Kd) (tk : Tok) (e it : Addr) (h1 : e ≠ it) (h2 : ∀ a ∈ k.adr, a ≠ e ∧ a ≠ it) :
    Turn P w K (.Tuple elts kk tpos) (IteG K k) [e, it] e (fun i h => (∃ old, IsEnum h e it ((i : Nat) : Int) old) ∧ k.itr tk h it i) where
  mem := by simp
  obj := fun i h st b hb => by
    obtain ⟨⟨old, he⟩, hi⟩ := st
    obtain ⟨o, ho, hd⟩ := Kd.itr_obj hi
    have e' : b = e ∨ b = it := by simpa using hb
    rcases e' with z | z
    · rw [z]; exact ⟨_, he, fun v q => nomatch q⟩
    · rw [z]; exact ⟨o, ho, hd⟩
  keep := fun i h h' st k' => let ⟨⟨old, he⟩, hi⟩ := st; ⟨⟨old, k' e (by simp) _ he⟩, Kd.itr_at hi fun o q => k' it (by simp) o q⟩
  item := by
    intro X hP hw hK hc i pins s σ H E I hf st hg
    subst hP hw hK
    obtain ⟨⟨old, he⟩, hit⟩ := st
    obtain ⟨xs, x, hq, hx⟩ := hg
    obtain ⟨Pq, Sq, Dr, st1, st2, hPq⟩ := draws I (I.ok.hd hc) hq tk it fun a ha => (h2 a ha).2
    have hel : e < s.heap.objs.size := Heap.lt_size he
    have hil : it < s.heap.objs.size := by obtain ⟨_, q, _⟩ := Kd.itr_obj hit; exact Heap.lt_size q
    have hlt : i < xs.length := (List.getElem?_eq_some_iff.mp hx).1
    refine wpAny_pyNext_enum_itemD Dr he (st1 i hit) hlt h1 (by simp only [List.mem_cons, not_or]; exact ⟨h1, fun z => (h2 e z).1 rfl⟩) fun u h' tk' hu ho hit' hT hsz hk => ?_
    obtain ⟨x', hx', ru⟩ := hPq i u hu
    rw [hx] at hx'; cases hx'
    refine ⟨_, rfl, wpAny_letOwnedTupleGo_enum (s := { s with heap := h', toks := tk' + 1 }) ho fun h'' he' sb => ?_⟩
    have hT2 : h''.get? s.heap.objs.size = some { cls := .type "tuple", data := .seq #[.int i tk', u] } := (sb.2 _ (Nat.ne_of_gt hel)).trans hT
    have new : ObjOk X.prog X.w (upd H s.heap.objs.size (.tup [.int (i : Nat), x])) h'' s.heap.objs.size (.tup [.int (i : Nat), x]) :=
      ⟨by show 2 ≤ sizeLine; decide, [.int i tk', u], .cons ⟨_, rfl⟩ (.cons ru .nil), ⟨_, hT2, rfl, _, rfl⟩⟩
    have I1 : Inv X pins σ (upd H s.heap.objs.size (.tup [.int (i : Nat), x])) { s with heap := h'', toks := tk' + 1 } :=
      I.turnedNew (ch := [e, it]) (fun b ob hb q => (sb.2 b (fun z => hb (by simp [z]))).trans (hk b ob (fun z => hb (by simp [z])) (fun z => hb (by simp [z])) q)) hf (Nat.le_refl _) new
    refine ⟨.ref s.heap.objs.size, _, I1, rfl, ⟨_, x, rfl, I.hok.fresh (Nat.le_refl _), rfl, fun ys hy => by rw [items_inj I hy hq]; exact hx⟩, ⟨⟨u, ?_⟩, Kd.itr_at (st2 _ _ hit') fun o q => (sb.2 it (Ne.symm h1)).trans q⟩, fun b hb => ?_⟩
    · have e1 : ((i + 1 : Nat) : Int) = (i : Int) + 1 := by omega
      rw [e1]; exact he'
    · have hb' : b < s.heap.objs.size := by
        have e' : b = e ∨ b = it := by simpa using hb
        rcases e' with z | z
        · rw [z]; exact hel
        · rw [z]; exact hil
      rw [upd_ne (Nat.ne_of_lt hb')]
      exact (hf b hb).1
  done := by
    intro X hP hw hK hc i pins s σ H E I hf st hg
    subst hP hw hK
    obtain ⟨⟨old, he⟩, hit⟩ := st
    obtain ⟨xs, hq, hx⟩ := hg
    obtain ⟨Pq, Sq, Dr, st1, st2, hPq⟩ := draws I (I.ok.hd hc) hq tk it fun a ha => (h2 a ha).2
    obtain ⟨f0, f1, f2, f3, f4, f5⟩ := hf it (by simp)
    exact wpAny_pyNext_enum_endD Dr he (by rw [hx]; exact st1 i hit) fun h' eb => ⟨rfl, I.turned (t' := s.toks) (fun b o hb q => eb b o hb q) f0 f1 f3 f4 f5⟩
  self := fun A i s Q E st h => let ⟨⟨_, he⟩, _⟩ := st; wpAny_pyIter_enum he h
set_option maxHeartbeats 1000000 in
theorem meets_enumerate_new1 {v : Value} {o : Obj} {H : Heap → Prop} (B : Begins v o H) :
    Meets (Builtin.«enumerate.__new__» ⟨[.type "enumerate", v], []⟩) (fun _ R s => H s.heap ∧
      R (.ok (.ret (.ref (s.heap.push o).objs.size))) { s with heap := (s.heap.push o).push { cls := .type "enumerate", data := .fields #[.none, .bool false, .ref s.heap.objs.size, rawInt 0, .none, .none] } }) :=
  .of_wp fun prog w A R s h => by
    obtain ⟨hp, g, d, tk, os⟩ := s; obtain ⟨h1, h⟩ := h
    have hsub := sub_enumerate
    have q1 : ∀ {A' : Around} {E : Value → Shared → Prop} {Q : Value → Shared → Prop}, Q (.ref hp.objs.size) ⟨hp.push o, g, d, tk, os⟩ → wpAny (model prog w) A' (pyIter v) Q E ⟨hp, g, d, tk, os⟩ :=
      fun q => B.iter prog w _ _ ⟨hp, g, d, tk, os⟩ _ h1 q
    wp_walk using q1
    refine wpAny_stack_any fun st => wpAny_pure ?_
    split
    · rename_i c _ _ _ _ _
      cases (c == Value.type "enumerate")
      · wp_walk using q1
        exact ⟨_, rfl, h⟩
      · wp_walk using q1
        exact ⟨_, rfl, h⟩
    · wp_walk using q1
      exact ⟨_, rfl, h⟩
theorem enum_begins1 {prog : Program} {w : World} {A : Around} {E : Value → Shared → Prop} {s : Shared} {v : Value} {o : Obj} {H : Heap → Prop} {Q : Value → Shared → Prop} (B : Begins v o H) (h1 : H s.heap)
    (h : ∀ h', IsEnum h' (s.heap.objs.size + 1) s.heap.objs.size 0 .none → h'.get? s.heap.objs.size = some o → h'.objs.size = s.heap.objs.size + 2 →
      (∀ b o, s.heap.get? b = some o → h'.get? b = some o) → Q (.ref (s.heap.objs.size + 1)) { s with heap := h' }) :
    wpAny (model prog w) A (call (.type "enumerate") [v]) Q E s := by
  refine callType_new F.called_enumerate (by decide) (F.typeCall_enumerate_1 _) (F.newCall_enumerate_1 _) (fun obj => F.args_object_init_2 obj _) F.entry_enumerate_new
    (meets_enumerate_new1 B) ⟨h1, ?_⟩
  have hz : (s.heap.push o).objs.size = s.heap.objs.size + 1 := Heap.size_push ..
  show _ ∧ _
  rw [hz]
  have he : IsEnum ((s.heap.push o).push { cls := .type "enumerate", data := .fields #[.none, .bool false, .ref s.heap.objs.size, rawInt 0, .none, .none] }) (s.heap.objs.size + 1) s.heap.objs.size 0 .none := by
    have := Heap.get?_push_size (s.heap.push o) (o := { cls := .type "enumerate", data := .fields #[.none, .bool false, .ref s.heap.objs.size, rawInt 0, .none, .none] }) rfl
    rw [hz] at this; exact this
  refine ⟨⟨_, he, rfl⟩, h _ he (Heap.get?_push_of_some _ (Heap.get?_push_size _ B.free)) (by rw [Heap.size_push, hz]) fun b o x => Heap.get?_push_of_some _ (Heap.get?_push_of_some _ x)⟩
def iEnumG (K : PySem.W.Frag) (ta : TA) : TI := fun σ H R => ta σ H fun vs H1 => ∃ (k : Kd) (xs : List V), vs = [k.v] ∧ k.items K H1 xs ∧ R (IteG K k) H1
theorem pi_enumG {X : Cx} {e : Expr} {ta : TA} {p pos tpos : Pos} {elts : List Expr} {kk : Nat} (hg : Gl X "enumerate") (hm : X.mg "enumerate" = none) (ha : PA X [e] ta) (hs : starEach [e] X.env = [(false, eval e X.env)] := by rfl) :
    PI X (.Tuple elts kk tpos) (.Call (.Name "enumerate" p) [e] [] pos) (iEnumG X.K ta) := by
  refine ⟨fun pins s σ H R I h => ?_⟩
  refine Call_ (ld_blt I hg hm boot_enumerate (PyProof.Rows.callWith_type1 (thn (ha.run pos pins s σ H _ I h) fun us s1 ⟨vs, H1, I1, r1, q1⟩ => ?_) hs rfl))
  obtain ⟨k, xs, ex, hq, q⟩ := q1
  subst ex
  cases r1 with
  | cons r rr =>
    cases rr
    obtain ⟨o, Hp', tk, B, hB, hst, hlt⟩ := begins I1 hq r
    refine enum_begins1 B hB fun h' he hit hsz hk => wpAny_pyIter_enum he ?_
    have I2 : Inv X pins σ H1 { s1 with heap := h' } := I1.kept (t' := s1.toks) hk
    have ne1 : ∀ a ∈ k.adr, a ≠ s1.heap.objs.size + 1 ∧ a ≠ s1.heap.objs.size := fun a ha => ⟨Nat.ne_of_lt (Nat.lt_succ_of_lt (hlt a ha)), Nat.ne_of_lt (hlt a ha)⟩
    refine ⟨s1.heap.objs.size + 1, [s1.heap.objs.size + 1, s1.heap.objs.size], _, _, H1, rfl, I2, turn_enumG k tk (s1.heap.objs.size + 1) s1.heap.objs.size (Nat.succ_ne_self _) ne1, ⟨⟨.none, he⟩, hst _ _ hit⟩, fun b hb => ?_, q⟩
    have e' : b = s1.heap.objs.size + 1 ∨ b = s1.heap.objs.size := by simpa using hb
    have hle : s1.heap.objs.size ≤ b := by
      rcases e' with z | z
      · rw [z]; exact Nat.le_add_right _ _
      · rw [z]; exact Nat.le_refl _
    exact I1.fpOk hle (I1.hok.fresh hle)

/-! ### zip of two -/
def ItzG (K : PySem.W.Frag) (k l : Kd) : It :=
  ⟨fun i H => ∃ (xs ys : List V) (x y : V), k.items K H xs ∧ l.items K H ys ∧ xs[i]? = some x ∧ ys[i]? = some y,
    fun i H v H' => ∃ T x y, v = .ref T ∧ H T = none ∧ H' = upd H T (.tup [x, y]) ∧ (∀ xs, k.items K H xs → xs[i]? = some x) ∧ ∀ ys, l.items K H ys → ys[i]? = some y,
    fun i H => ∃ xs ys : List V, k.items K H xs ∧ l.items K H ys ∧ min xs.length ys.length = i⟩
theorem turn_zipG {P : Program} {w : World} {K : PySem.W.Frag} {elts : List Expr} {kk : Nat} {tpos : Pos} {k l : Kd} {tk1 tk2 : Tok} {z TI TO i1 i2 : Addr} (S : ZipSep2 z TI TO i1 i2 (i1 :: k.adr) (i2 :: l.adr)) (n1 : ∀ a ∈ k.adr, a ≠ i1) (n2 : ∀ a ∈ l.adr, a ≠ i2) :
    Turn P w K (.Tuple elts kk tpos) (ItzG K k l) [z, TI, TO, i1, i2] z (fun i h => IsZip h z TI TO .none ∧ IsTupOf2 h TI (.ref i1) (.ref i2) ∧ (∃ x y, IsTupOf2 h TO x y) ∧ k.itr tk1 h i1 i ∧ l.itr tk2 h i2 i) where
  mem := by simp
  obj := fun i h st c hc => by
    obtain ⟨hz, hTI, ⟨x, y, hTO⟩, h1, h2⟩ := st
    obtain ⟨o1, e1, d1⟩ := Kd.itr_obj h1
    obtain ⟨o2, e2, d2⟩ := Kd.itr_obj h2
    have e' : c = z ∨ c = TI ∨ c = TO ∨ c = i1 ∨ c = i2 := by simpa using hc
    rcases e' with q | q | q | q | q
    · rw [q]; exact ⟨_, hz, fun v q => nomatch q⟩
    · rw [q]; exact ⟨_, hTI, fun v q => nomatch q⟩
    · rw [q]; exact ⟨_, hTO, fun v q => nomatch q⟩
    · rw [q]; exact ⟨o1, e1, d1⟩
    · rw [q]; exact ⟨o2, e2, d2⟩
  keep := fun i h h' st k' => by
    obtain ⟨hz, hTI, ⟨x, y, hTO⟩, h1, h2⟩ := st
    exact ⟨k' z (by simp) _ hz, k' TI (by simp) _ hTI, ⟨x, y, k' TO (by simp) _ hTO⟩, Kd.itr_at h1 fun o q => k' i1 (by simp) o q, Kd.itr_at h2 fun o q => k' i2 (by simp) o q⟩
  item := by
    intro X hP hw hK hc i pins s σ H E I hf st hg
    subst hP hw hK
    obtain ⟨hz, hTI, ⟨x0, y0, hTO⟩, h1, h2⟩ := st
    obtain ⟨xs, ys, x, y, hqx, hqy, hx, hy⟩ := hg
    obtain ⟨P1, S1, D1, st1, sb1, hP1⟩ := draws I (I.ok.hd hc) hqx tk1 i1 n1
    obtain ⟨P2, S2, D2, st2, sb2, hP2⟩ := draws I (I.ok.hd hc) hqy tk2 i2 n2
    have hzl : z < s.heap.objs.size := Heap.lt_size hz
    refine wpAny_pyNext_zipD2_item S D1 D2 hz hTI hTO (st1 i h1) (st2 i h2) (List.getElem?_eq_some_iff.mp hx).1 (List.getElem?_eq_some_iff.mp hy).1 fun u u2 h' tk hu hu2 z' TO' h1' h2' hT hsz hk => ?_
    obtain ⟨x', hx', ru⟩ := hP1 i u hu
    obtain ⟨y', hy', ru2⟩ := hP2 i u2 hu2
    rw [hx] at hx'; cases hx'
    rw [hy] at hy'; cases hy'
    refine ⟨_, rfl, wpAny_letOwnedTupleGo_zip (s := { s with heap := h', toks := tk }) z' fun h'' z'' sb => ?_⟩
    have hT2 : h''.get? s.heap.objs.size = some { cls := .type "tuple", data := .seq #[u, u2] } := (sb.2 _ (Nat.ne_of_gt hzl)).trans hT
    have new : ObjOk X.prog X.w (upd H s.heap.objs.size (.tup [x, y])) h'' s.heap.objs.size (.tup [x, y]) :=
      ⟨by show 2 ≤ sizeLine; decide, [u, u2], .cons ru (.cons ru2 .nil), ⟨_, hT2, rfl, _, rfl⟩⟩
    have I1 : Inv X pins σ (upd H s.heap.objs.size (.tup [x, y])) { s with heap := h'', toks := tk } :=
      I.turnedNew (t' := tk) (ch := [z, TI, TO, i1, i2]) (fun c o hb q => (sb.2 c (fun q' => hb (by simp [q']))).trans (hk c o (fun q' => hb (by simp [q'])) (fun q' => hb (by simp [q'])) (fun q' => hb (by simp [q'])) (fun q' => hb (by simp [q'])) q)) hf (Nat.le_refl _) new
    refine ⟨.ref s.heap.objs.size, _, I1, rfl, ⟨_, x, y, rfl, I.hok.fresh (Nat.le_refl _), rfl, fun l' hl => by rw [items_inj I hl hqx]; exact hx, fun l' hl => by rw [items_inj I hl hqy]; exact hy⟩, ⟨z'', ?_, ⟨u, u2, ?_⟩, ?_, ?_⟩, fun c hcm => ?_⟩
    · refine (sb.2 _ S.TIz).trans (hk _ _ S.TIz S.TITO S.TIi1 S.TIi2 hTI)
    · exact (sb.2 _ S.TOz).trans TO'
    · exact Kd.itr_at (sb1 _ _ h1') fun o q => (sb.2 _ (Ne.symm S.zi1)).trans q
    · exact Kd.itr_at (sb2 _ _ h2') fun o q => (sb.2 _ (Ne.symm S.zi2)).trans q
    · have hlt : c < s.heap.objs.size := by
        have e' : c = z ∨ c = TI ∨ c = TO ∨ c = i1 ∨ c = i2 := by simpa using hcm
        rcases e' with q | q | q | q | q
        · rw [q]; exact hzl
        · rw [q]; exact Heap.lt_size hTI
        · rw [q]; exact Heap.lt_size hTO
        · rw [q]; obtain ⟨_, e1, _⟩ := Kd.itr_obj h1; exact Heap.lt_size e1
        · rw [q]; obtain ⟨_, e2, _⟩ := Kd.itr_obj h2; exact Heap.lt_size e2
      rw [upd_ne (Nat.ne_of_lt hlt)]
      exact (hf c hcm).1
  done := by
    intro X hP hw hK hc i pins s σ H E I hf st hg
    subst hP hw hK
    obtain ⟨hz, hTI, ⟨x0, y0, hTO⟩, h1, h2⟩ := st
    obtain ⟨xs, ys, hqx, hqy, hend⟩ := hg
    obtain ⟨P1, S1, D1, st1, sb1, hP1⟩ := draws I (I.ok.hd hc) hqx tk1 i1 n1
    obtain ⟨P2, S2, D2, st2, sb2, hP2⟩ := draws I (I.ok.hd hc) hqy tk2 i2 n2
    refine wpAny_pyNext_zipD2_end S D1 D2 hz hTI hTO (st1 i h1) (st2 i h2) (by omega) (by omega) (by omega) fun h' tk hk => ⟨rfl, I.turnedL (t' := tk) (ch := [z, TI, TO, i1, i2]) (fun c o hb q =>
      hk c o (fun q' => hb (by simp [q'])) (fun q' => hb (by simp [q'])) (fun q' => hb (by simp [q'])) (fun q' => hb (by simp [q'])) q) hf⟩
  self := fun A i s Q E st h => wpAny_pyIter_zip st.1 h
def iZipG (K : PySem.W.Frag) (ta : TA) : TI := fun σ H R => ta σ H fun vs H1 => ∃ (k l : Kd) (xs ys : List V), vs = [k.v, l.v] ∧ k.items K H1 xs ∧ l.items K H1 ys ∧ R (ItzG K k l) H1
theorem pi_zipG {X : Cx} {e e2 : Expr} {ta : TA} {p pos tpos : Pos} {elts : List Expr} {kk : Nat} (hg : Gl X "zip") (hm : X.mg "zip" = none) (ha : PA X [e, e2] ta)
    (hs : starEach [e, e2] X.env = (false, eval e X.env) :: starEach [e2] X.env := by rfl) (hpl : (backTo pos (starEach [e2] X.env)).any (·.1) = false := by rfl) :
    PI X (.Tuple elts kk tpos) (.Call (.Name "zip" p) [e, e2] [] pos) (iZipG X.K ta) := by
  refine ⟨fun pins s σ H R I h => ?_⟩
  refine Call_ (ld_blt I hg hm PyProof.Rows.boot_zip (PyProof.Rows.callWith_type1 (thn (ha.run pos pins s σ H _ I h) fun us s1 ⟨vs, H1, I1, r1, q1⟩ => ?_) hs hpl))
  obtain ⟨k, l, xs, ys, ex, hqx, hqy, q⟩ := q1
  subst ex
  cases r1 with
  | cons r rr =>
    cases rr with
    | cons r' rr =>
      cases rr
      obtain ⟨o1, Hp1, tk1, B1, hB1, hst1, hlt1⟩ := begins I1 hqx r
      obtain ⟨o2, Hp2, tk2, B2, hB2, hst2, hlt2⟩ := begins I1 hqy r'
      refine zip_begins2 B1 B2 hB1 hB2 fun h' hz hTI hTO g1 g2 hsz hk => wpAny_pyIter_zip hz ?_
      have I2 : Inv X pins σ H1 { s1 with heap := h' } := I1.kept (t' := s1.toks) hk
      refine ⟨s1.heap.objs.size + 4, [s1.heap.objs.size + 4, s1.heap.objs.size + 2, s1.heap.objs.size + 3, s1.heap.objs.size, s1.heap.objs.size + 1], _, _, H1, rfl, I2,
        turn_zipG (zip_sep2 hlt1 hlt2) (fun a ha => Nat.ne_of_lt (hlt1 a ha)) (fun a ha => Nat.ne_of_lt (Nat.lt_succ_of_lt (hlt2 a ha))), ⟨hz, hTI, ⟨_, _, hTO⟩, hst1 _ _ g1, hst2 _ _ g2⟩, fun c hcm => ?_, q⟩
      have e' : c = s1.heap.objs.size + 4 ∨ c = s1.heap.objs.size + 2 ∨ c = s1.heap.objs.size + 3 ∨ c = s1.heap.objs.size ∨ c = s1.heap.objs.size + 1 := by simpa using hcm
      have hle : s1.heap.objs.size ≤ c := by
        rcases e' with z | z | z | z | z
        · rw [z]; exact Nat.le_add_right _ _
        · rw [z]; exact Nat.le_add_right _ _
        · rw [z]; exact Nat.le_add_right _ _
        · rw [z]; exact Nat.le_refl _
        · rw [z]; exact Nat.le_add_right _ _
      exact I1.fpOk hle (I1.hok.fresh hle)

/-! ### as Walks -/
theorem kd_mono {K : PySem.W.Frag} {H H' : Hp} (hr : ∀ a u, Rd H a u → Rd H' a u) {k : Kd} {xs : List V} (h : k.items K H xs) : k.items K H' xs := by
  cases k with
  | l a => rcases h with h | h
           · exact .inl (hr _ _ h)
           · exact .inr h
  | t a => rcases h with h | h
           · exact .inl (hr _ _ h)
           · exact .inr h
  | s x => exact h
theorem walk_enumG {K : PySem.W.Frag} {k : Kd} {xs : List V} : Walk (IteG K k) xs.length (fun H => k.items K H xs) (YPair (fun i => some (.int (i : Nat))) (fun i => xs[i]?)) := by
  refine ⟨fun i _ hi q => ⟨xs, xs[i], q, by simp [hi]⟩, fun _ q => ⟨xs, q, rfl⟩, fun i H v H' _ q y => ?_⟩
  obtain ⟨T, x, h1, h2, h3, h4⟩ := y
  exact ⟨T, .int (i : Nat), x, h1, h2, h3, rfl, h4 xs q⟩
theorem walk_zipG {K : PySem.W.Frag} {k l : Kd} {xs ys : List V} {n : Nat} (hn : n = min xs.length ys.length) : Walk (ItzG K k l) n (fun H => k.items K H xs ∧ l.items K H ys) (YPair (fun i => xs[i]?) (fun i => ys[i]?)) := by
  subst hn
  refine ⟨fun i _ hi q => ?_, fun _ q => ⟨xs, ys, q.1, q.2, rfl⟩, fun i H v H' _ q y => ?_⟩
  · have h1 : i < xs.length := by omega
    have h2 : i < ys.length := by omega
    exact ⟨xs, ys, xs[i], ys[i], q.1, q.2, by simp [h1], by simp [h2]⟩
  · obtain ⟨T, x, z, h1, h2, h3, h4, h5⟩ := y
    exact ⟨T, x, z, h1, h2, h3, h4 xs q.1, h5 ys q.2⟩
end Pd

set_option Elab.async false
set_option linter.all false
set_option maxRecDepth 100000
set_option maxHeartbeats 4000000
/-! Pd6: what is walked as data, targets, list comprehensions, calls of defs that change nothing. -/
namespace Pd
open PySem PySem.Spec PyProof.Rows L2

/-! ### a heap, and the tuples of a later one -/
def isTup : Option HO → Bool
  | some (.tup _) => true
  | some (.frz _ (.tup _)) => true
  | _ => false
def tov (B H : Hp) : Hp := fun a => match B a with
  | some o => some o
  | none => if isTup (H a) then H a else none
theorem tov_in {B H : Hp} {a : Addr} {o : HO} (h : B a = some o) : tov B H a = some o := by unfold tov; rw [h]
theorem tov_ge {B H : Hp} : Same B (tov B H) := fun a o h => tov_in h
theorem tov_le {B H : Hp} (e : Sm B H) : Sm (tov B H) H := by
  refine ⟨fun a u r => ?_, fun a xs r => ?_⟩
  · unfold Rd tov at r
    cases q : B a with
    | none =>
      rw [q] at r
      simp only at r
      rcases r with r | ⟨o, r⟩
      · split at r
        · exact .inl r
        · cases r
      · split at r
        · exact .inr ⟨o, r⟩
        · cases r
    | some o =>
      rw [q] at r
      exact e.rd a u (by unfold Rd; rw [q]; exact r)
  · unfold tov at r
    cases q : B a with
    | none =>
      rw [q] at r
      simp only at r
      split at r
      · exact r
      · cases r
    | some o =>
      rw [q] at r
      exact e.ls a xs (by rw [q]; exact r)
theorem tov_none {B H : Hp} {a : Addr} (h : B a = none) (h2 : isTup (H a) = false) : tov B H a = none := by unfold tov; rw [h, h2]; rfl
theorem tov_mono {B H H' : Hp} (e : Same H H') : Same (tov B H) (tov B H') := fun a o h => by
  unfold tov at h ⊢
  cases q : B a with
  | none =>
    rw [q] at h
    simp only at h ⊢
    split at h
    · rename_i z
      rw [e a o h]
      rw [h] at z
      rw [if_pos z]
    · cases h
  | some u => rw [q] at h; exact h

/-! ### walks over data -/
def WD (K : PySem.W.Frag) (B : Hp) (J : It) (ds : List D) : Prop :=
  ∃ (G : Hp → Prop) (Y : Nat → Hp → V → Hp → Prop), Walk J ds.length G Y ∧ (∀ H, Sm B H → G H) ∧ ∀ i H x H', Sm B H → Y i H x H' → Same H H' ∧ ∃ d, ds[i]? = some d ∧ Rep K (tov B H') x d
def strD (x : Str) : List D := x.cps.toList.map fun c => .str ⟨#[c]⟩
def itemsS : D → Option (List D)
  | .list xs => some xs
  | .tuple xs => some xs
  | .str x => some (strD x)
  | _ => none
theorem rep_str {K : PySem.W.Frag} {H : Hp} (x : Str) : RepL K H (strV x) (strD x) := by
  unfold strV strD
  generalize x.cps.toList = l
  induction l with
  | nil => exact .nil
  | cons c r ih => exact .cons (.str _) ih
theorem kdOf {K : PySem.W.Frag} {B : Hp} {v : V} {d : D} {xs : List D} (r : Rep K B v d) (h : itemsS d = some xs) : ∃ (k : Kd) (ys : List V), v = k.v ∧ k.items K B ys ∧ RepL K B ys xs := by
  cases r with
  | lst h1 r => cases h; exact ⟨.l _, _, rfl, SqL.of h1, r⟩
  | tup h1 r => cases h; exact ⟨.t _, _, rfl, h1, r⟩
  | str x => cases h; exact ⟨.s x, _, rfl, rfl, rep_str x⟩
  | _ => simp [itemsS] at h
def ItK (K : PySem.W.Frag) : Kd → It
  | .l a => Itl K a
  | .t a => Itt K a
  | .s x => Its x
theorem walk_K {K : PySem.W.Frag} {k : Kd} {xs : List V} (hx : ∀ x, k = .s x → xs = strV x) : Walk (ItK K k) xs.length (fun H => k.items K H xs) (YAt xs) := by
  cases k with
  | l a => exact walk_list
  | t a => exact walk_tup
  | s x =>
    have := hx x rfl
    subst this
    have e : (strV x).length = x.cps.size := by simp [strV]
    rw [e]
    refine (walk_str (z := x)).mono (fun _ _ => trivial) fun i H v H' hi _ ⟨h1, c, h2, h3⟩ => ⟨h1, ?_⟩
    rw [h3]; exact strV_get h2
theorem items_str {K : PySem.W.Frag} {H : Hp} {k : Kd} {xs : List V} (h : k.items K H xs) : ∀ x, k = .s x → xs = strV x := fun x e => by subst e; exact h
theorem wd_any {K : PySem.W.Frag} {B : Hp} {k : Kd} {ys : List V} {xs : List D} (h : k.items K B ys) (r : RepL K B ys xs) : WD K B (ItK K k) xs := by
  refine ⟨fun H => k.items K H ys, YAt ys, by rw [← r.length]; exact walk_K (items_str h), fun H e => kd_mono e.rd h, fun i H x H' e ⟨y1, y2⟩ => ?_⟩
  subst y1
  obtain ⟨d, hd, q⟩ := r.get y2
  exact ⟨Same.refl _, d, hd, q.mono (smOf tov_ge)⟩
def enumD : Nat → List D → List D
  | _, [] => []
  | i, d :: r => .tuple [.int i, d] :: enumD (i + 1) r
theorem enumD_len (xs : List D) : ∀ i, (enumD i xs).length = xs.length := by
  induction xs with
  | nil => intro i; rfl
  | cons d r ih => intro i; simp [enumD, ih]
theorem enumD_get (xs : List D) : ∀ (i j : Nat) (d : D), xs[j]? = some d → (enumD i xs)[j]? = some (.tuple [.int ((i + j : Nat) : Int), d]) := by
  induction xs with
  | nil => intro i j d h; simp at h
  | cons a r ih =>
    intro i j d h
    cases j with
    | zero => simp at h; subst h; simp [enumD]
    | succ j =>
      have := ih (i + 1) j d (by simpa using h)
      simp only [enumD, List.getElem?_cons_succ, this]
      congr 4
      omega
theorem repPair {K : PySem.W.Frag} {B H : Hp} {T : Addr} {x y : V} {d e : D} (hb : B T = none) (r1 : Rep K B x d) (r2 : Rep K B y e) : Rep K (tov B (upd H T (.tup [x, y]))) (.ref T) (.tuple [d, e]) := by
  have q : tov B (upd H T (.tup [x, y])) T = some (.tup [x, y]) := by unfold tov; rw [hb, upd_same]; rfl
  exact .tup (SqT.of q) (.cons (r1.mono (smOf tov_ge)) (.cons (r2.mono (smOf tov_ge)) .nil))
theorem wd_enum {K : PySem.W.Frag} {B : Hp} {k : Kd} {ys : List V} {xs : List D} (h : k.items K B ys) (r : RepL K B ys xs) : WD K B (IteG K k) (enumD 0 xs) := by
  refine ⟨fun H => k.items K H ys, YPair (fun i => some (.int (i : Nat))) (fun i => ys[i]?), by rw [enumD_len, ← r.length]; exact walk_enumG, fun H e => kd_mono e.rd h, fun i H x H' e ⟨T, a, b, h1, h2, h3, h4, h5⟩ => ?_⟩
  subst h1 h3
  cases h4
  obtain ⟨d, hd, q⟩ := r.get h5
  exact ⟨sameNew h2 _, _, by rw [enumD_get xs 0 i d hd, Nat.zero_add], repPair (e.dom h2) (.int _) q⟩
def zipD : List D → List D → List D
  | a :: r, b :: s => .tuple [a, b] :: zipD r s
  | _, _ => []
theorem zipD_len : ∀ (xs ys : List D), (zipD xs ys).length = min xs.length ys.length
  | [], _ => by simp [zipD]
  | _ :: _, [] => by simp [zipD]
  | a :: r, b :: s => by simp only [zipD, List.length_cons, zipD_len r s]; omega
theorem zipD_get : ∀ (xs ys : List D) (j : Nat) (d e : D), xs[j]? = some d → ys[j]? = some e → (zipD xs ys)[j]? = some (.tuple [d, e])
  | [], _, _, _, _, h, _ => by simp at h
  | _ :: _, [], _, _, _, _, h => by simp at h
  | a :: r, b :: s, 0, d, e, h1, h2 => by simp at h1 h2; subst h1 h2; simp [zipD]
  | a :: r, b :: s, j + 1, d, e, h1, h2 => by simpa [zipD] using zipD_get r s j d e (by simpa using h1) (by simpa using h2)
theorem wd_zip {K : PySem.W.Frag} {B : Hp} {k l : Kd} {ys zs : List V} {xs ws : List D} (h : k.items K B ys) (h' : l.items K B zs) (r : RepL K B ys xs) (r' : RepL K B zs ws) : WD K B (ItzG K k l) (zipD xs ws) := by
  refine ⟨fun H => k.items K H ys ∧ l.items K H zs, YPair (fun i => ys[i]?) (fun i => zs[i]?), by rw [zipD_len, ← r.length, ← r'.length]; exact walk_zipG rfl, fun H e => ⟨kd_mono e.rd h, kd_mono e.rd h'⟩, fun i H x H' e ⟨T, a, b, h1, h2, h3, h4, h5⟩ => ?_⟩
  subst h1 h3
  obtain ⟨d, hd, q⟩ := r.get h4
  obtain ⟨d', hd', q'⟩ := r'.get h5
  exact ⟨sameNew h2 _, _, zipD_get xs ws i d d' hd hd', repPair (e.dom h2) q q'⟩
theorem rgD_get {a b : Int} {i : Nat} (h : i < (b - a).toNat) : (rgD a b)[i]? = some (.int (a + (i : Nat))) := by
  unfold rgD
  rw [List.getElem?_map, List.getElem?_range h]; rfl
theorem rgD_len (a b : Int) : (rgD a b).length = (b - a).toNat := by unfold rgD; rw [List.length_map, List.length_range]
theorem wd_rng {K : PySem.W.Frag} {B : Hp} (a b : Int) : WD K B (Itr a (b - a).toNat) (rgD a b) := by
  refine ⟨fun _ => True, fun i H x H' => i < (b - a).toNat ∧ H' = H ∧ x = .int (a + (i : Nat)), ?_, fun _ _ => trivial, fun i H x H' e ⟨y0, y1, y2⟩ => ?_⟩
  · rw [rgD_len]
    exact walk_range.mono (fun _ _ => trivial) fun i H x H' hi _ y => ⟨hi, y.1, y.2⟩
  · subst y1 y2
    exact ⟨Same.refl _, _, rgD_get y0, .int _⟩
def rgC (a c : Int) (n : Nat) : List D := (List.range n).map fun i => .int (a + (i : Nat) * c)
theorem wd_rng3 {K : PySem.W.Frag} {B : Hp} (a c : Int) (n : Nat) : WD K B (Itc a c n) (rgC a c n) := by
  have hl : (rgC a c n).length = n := by unfold rgC; rw [List.length_map, List.length_range]
  refine ⟨fun _ => True, fun i H x H' => i < n ∧ H' = H ∧ x = .int (a + (i : Nat) * c), ?_, fun _ _ => trivial, fun i H x H' e ⟨y0, y1, y2⟩ => ?_⟩
  · rw [hl]
    exact walk_rangeC.mono (fun _ _ => trivial) fun i H x H' hi _ y => ⟨hi, y.1, y.2⟩
  · subst y1 y2
    exact ⟨Same.refl _, _, by unfold rgC; rw [List.getElem?_map, List.getElem?_range y0]; rfl, .int _⟩

/-! ### what is walked, by the values of its parts -/
def IterV (K : PySem.W.Frag) (ri : List V → Hp → (It → Hp → Prop) → Prop) (gi : List D → Option (List D)) : Prop :=
  ∀ (vs : List V) (ds out : List D) (B H : Hp) (R : It → Hp → Prop), RepL K B vs ds → Sm B H → gi ds = some out → (∀ J, WD K B J out → R J H) → ri vs H R
/-- a walked thing whose parts are es -/
structure PItV (X : Cx) (tg e : Expr) (es : List Expr) (ri : List V → Hp → (It → Hp → Prop) → Prop) (gi : List D → Option (List D)) : Prop where
  pi : ∀ {t : TA}, PA X es t → PI X tg e (fun σ H R => t σ H fun vs H1 => ri vs H1 R)
  v : IterV X.K ri gi
section
variable {X : Cx} {tg a b c : Expr} {p pos tpos : Pos} {elts : List Expr} {kk : Nat}
def riAny (K : PySem.W.Frag) : List V → Hp → (It → Hp → Prop) → Prop := fun vs H R => ∃ (k : Kd) (xs : List V), vs = [k.v] ∧ k.items K H xs ∧ R (ItK K k) H
def giAny : List D → Option (List D)
  | [d] => itemsS d
  | _ => none
theorem iv_any {K : PySem.W.Frag} : IterV K (riAny K) giAny := by
  intro vs ds out B H R r e q k
  unfold giAny at q
  split at q
  · obtain ⟨v, rfl, r1⟩ := rep1 r
    obtain ⟨kd, ys, rfl, h1, h2⟩ := kdOf r1 q
    exact ⟨kd, ys, rfl, kd_mono e.rd h1, k _ (wd_any h1 h2)⟩
  · cases q
theorem pi_anyK {te : TE} (he : PE X a te) : PI X tg a (fun σ H R => te σ H fun x H1 => ∃ (k : Kd) (xs : List V), x = k.v ∧ k.items X.K H1 xs ∧ R (ItK X.K k) H1) := by
  refine ⟨fun pins s σ H R I h => ?_⟩
  refine thn (he.run pins s σ H _ I h) fun v s1 ⟨x, H1, I1, r1, k, xs, e, hq, q⟩ => ?_
  subst e
  cases k with
  | l a' =>
    cases r1
    obtain ⟨its, rv, p', hz⟩ := I1.list hq
    refine wpAny_pyIter_list p'.isList ?_
    refine ⟨s1.heap.objs.size, [s1.heap.objs.size], _, _, H1, rfl, I1.kept (t' := s1.toks) fun b o e => Heap.get?_push_of_some _ e, turn_list a' _, ⟨_, Heap.get?_push_size _ rfl, rfl, rfl⟩, fun b hb => ?_, q⟩
    have e : b = s1.heap.objs.size := by simpa using hb
    subst e
    exact I1.fpOk (Nat.le_refl _) (I1.hok.fresh (Nat.le_refl _))
  | t a' =>
    cases r1
    obtain ⟨its, rv, p', hz⟩ := I1.tuple hq
    refine wpAny_pyIter_tuple (show s1.heap.IsTuple a' its.toArray from p') ?_
    refine ⟨s1.heap.objs.size, [s1.heap.objs.size], _, _, H1, rfl, I1.kept (t' := s1.toks) fun b o e => Heap.get?_push_of_some _ e, turn_tuple a' _, ⟨_, Heap.get?_push_size _ rfl, rfl, rfl⟩, fun b hb => ?_, q⟩
    have e : b = s1.heap.objs.size := by simpa using hb
    subst e
    exact I1.fpOk (Nat.le_refl _) (I1.hok.fresh (Nat.le_refl _))
  | s x =>
    obtain ⟨t, rfl⟩ := r1
    refine wpAny_pyIter_strU ?_
    have hty : strIterType x = "str_ascii_iterator" ∨ strIterType x = "str_iterator" := by unfold strIterType; split <;> simp
    refine ⟨s1.heap.objs.size, [s1.heap.objs.size], _, _, H1, rfl, I1.kept (t' := s1.toks) fun b o e => Heap.get?_push_of_some _ e, turn_str _ x t (strIterType x) hty, ⟨_, Heap.get?_push_size _ rfl, rfl, rfl⟩, fun b hb => ?_, q⟩
    have e : b = s1.heap.objs.size := by simpa using hb
    subst e
    exact I1.fpOk (Nat.le_refl _) (I1.hok.fresh (Nat.le_refl _))
def riEnum (K : PySem.W.Frag) : List V → Hp → (It → Hp → Prop) → Prop := fun vs H R => ∃ (k : Kd) (xs : List V), vs = [k.v] ∧ k.items K H xs ∧ R (IteG K k) H
def giEnum : List D → Option (List D)
  | [d] => (itemsS d).map (enumD 0)
  | _ => none
theorem it_enum {K : PySem.W.Frag} (hm : X.mg "enumerate" = none) (hg : Gl X "enumerate" := by rfl) (hs : starEach [a] X.env = [(false, eval a X.env)] := by rfl) (hK : X.K = K := by rfl) : PItV X (.Tuple elts kk tpos) (.Call (.Name "enumerate" p) [a] [] pos) [a] (riEnum K) giEnum := by
  subst hK
  refine ⟨fun ha => pi_enumG hg hm ha hs, fun vs ds out B H R r e q k => ?_⟩
  unfold giEnum at q
  split at q
  · obtain ⟨v, rfl, r1⟩ := rep1 r
    obtain ⟨xs, qx, rfl⟩ := Option.map_eq_some_iff.mp q
    obtain ⟨kd, ys, rfl, h1, h2⟩ := kdOf r1 qx
    exact ⟨kd, ys, rfl, kd_mono e.rd h1, k _ (wd_enum h1 h2)⟩
  · cases q
def riZip (K : PySem.W.Frag) : List V → Hp → (It → Hp → Prop) → Prop := fun vs H R => ∃ (k l : Kd) (xs ys : List V), vs = [k.v, l.v] ∧ k.items K H xs ∧ l.items K H ys ∧ R (ItzG K k l) H
def giZip : List D → Option (List D)
  | [d, e] => (itemsS d).bind fun xs => (itemsS e).map (zipD xs)
  | _ => none
theorem it_zip {K : PySem.W.Frag} (hm : X.mg "zip" = none) (hg : Gl X "zip" := by rfl) (hs : starEach [a, b] X.env = (false, eval a X.env) :: starEach [b] X.env := by rfl) (hpl : (backTo pos (starEach [b] X.env)).any (·.1) = false := by rfl) (hK : X.K = K := by rfl) :
    PItV X (.Tuple elts kk tpos) (.Call (.Name "zip" p) [a, b] [] pos) [a, b] (riZip K) giZip := by
  subst hK
  refine ⟨fun ha => pi_zipG hg hm ha hs hpl, fun vs ds out B H R r e q k => ?_⟩
  unfold giZip at q
  split at q
  · obtain ⟨v, u, rfl, r1, r2⟩ := rep2 r
    obtain ⟨xs, q1, q⟩ := bindSome q
    obtain ⟨ys, q2, rfl⟩ := Option.map_eq_some_iff.mp q
    obtain ⟨kd, zs, rfl, h1, h2⟩ := kdOf r1 q1
    obtain ⟨ld, ws, rfl, h3, h4⟩ := kdOf r2 q2
    exact ⟨kd, ld, _, _, rfl, kd_mono e.rd h1, kd_mono e.rd h3, k _ (wd_zip h1 h3 h2 h4)⟩
  · cases q
def riRg1 : List V → Hp → (It → Hp → Prop) → Prop := fun vs H R => ∃ j : Int, vs = [.int j] ∧ -(2 ^ 62) ≤ j ∧ j < 2 ^ 62 ∧ R (Itr 0 j.toNat) H
noncomputable def giRg1 : List D → Option (List D)
  | [.int n] => if rgOk 0 n then some (rgD 0 n) else none
  | _ => none
theorem it_rg1 (hm : X.mg "range" = none) (hg : Gl X "range" := by rfl) (hs : starEach [a] X.env = [(false, eval a X.env)] := by rfl) : PItV X tg (.Call (.Name "range" p) [a] [] pos) [a] riRg1 giRg1 := by
  refine ⟨fun ha => pi_range1 hg hm ha hs, fun vs ds out B H R r e q k => ?_⟩
  unfold giRg1 at q
  split at q
  · obtain ⟨v, rfl, r1⟩ := rep1 r
    split at q
    · rename_i hc
      cases q
      cases r1
      have := rgOk_of hc
      have z := wd_rng (K := X.K) (B := B) 0
      exact ⟨_, rfl, this.2.2.1, this.2.2.2.1, k _ (by have := z ‹Int›; rwa [Int.sub_zero] at this)⟩
    · cases q
  · cases q
def riRg2 : List V → Hp → (It → Hp → Prop) → Prop := fun vs H R => ∃ i j : Int, vs = [.int i, .int j] ∧ (-(2 ^ 62) ≤ i ∧ i < 2 ^ 62 ∧ -(2 ^ 62) ≤ j ∧ j < 2 ^ 62) ∧ R (Itr i (j - i).toNat) H
noncomputable def giRg2 : List D → Option (List D)
  | [.int m, .int n] => if rgOk m n then some (rgD m n) else none
  | _ => none
theorem it_rg2 (hm : X.mg "range" = none) (hg : Gl X "range" := by rfl) (hs : starEach [a, b] X.env = [(false, eval a X.env), (false, eval b X.env)] := by rfl) (hs2 : starEach [b] X.env = [(false, eval b X.env)] := by rfl) : PItV X tg (.Call (.Name "range" p) [a, b] [] pos) [a, b] riRg2 giRg2 := by
  refine ⟨fun ha => pi_range2 hg hm ha hs hs2, fun vs ds out B H R r e q k => ?_⟩
  unfold giRg2 at q
  split at q
  · obtain ⟨v, u, rfl, r1, r2⟩ := rep2 r
    split at q
    · rename_i hc
      cases q
      cases r1
      cases r2
      have := rgOk_of hc
      exact ⟨_, _, rfl, ⟨this.1, this.2.1, this.2.2.1, this.2.2.2.1⟩, k _ (wd_rng _ _)⟩
    · cases q
  · cases q
/-- range(i, j, c): how many -/
def rgN (i j c : Int) : Nat := if 0 < c then ((j - i + c - 1) / c).toNat else ((i - j + (-c) - 1) / (-c)).toNat
noncomputable def rg3Ok (i j c : Int) : Bool := rgOk i j && decide (c ≠ 0) && decide (-1000000 ≤ c) && decide (c ≤ 1000000) && decide (Builtin.Range.small i j c = true) && decide (Builtin.Range.rangeSize i j c = ((Builtin.Range.rangeSize i j c).toNat : Int))
def riRg3 : List V → Hp → (It → Hp → Prop) → Prop := fun vs H R => ∃ (i j c : Int) (n : Nat), vs = [.int i, .int j, .int c] ∧ RgC i j c n ∧ R (Itc i c n) H
noncomputable def giRg3 : List D → Option (List D)
  | [.int i, .int j, .int c] => if rg3Ok i j c then some (rgC i c (Builtin.Range.rangeSize i j c).toNat) else none
  | _ => none
theorem it_rg3 (hm : X.mg "range" = none) {t : TA} (hg : Gl X "range" := by rfl) (hpi : ∀ {t : TA}, PA X [a, b, c] t → PI X tg (.Call (.Name "range" p) [a, b, c] [] pos) (iRng3 t) := by exact fun ha => pi_range3 (by rfl) (by assumption) ha) :
    PItV X tg (.Call (.Name "range" p) [a, b, c] [] pos) [a, b, c] riRg3 giRg3 := by
  refine ⟨fun ha => hpi ha, fun vs ds out B H R r e q k => ?_⟩
  unfold giRg3 at q
  split at q
  · cases r with
    | cons r1 r =>
      obtain ⟨v, u, rfl, r2, r3⟩ := rep2 r
      split at q
      · rename_i hc
        cases q
        cases r1
        cases r2
        cases r3
        simp only [rg3Ok, Bool.and_eq_true, decide_eq_true_eq] at hc
        obtain ⟨⟨⟨⟨⟨h0, h1⟩, h2⟩, h3⟩, h4⟩, h5⟩ := hc
        exact ⟨_, _, _, _, rfl, ⟨h1, by omega, h4, h5⟩, k _ (wd_rng3 _ _ _)⟩
      · cases q
  · cases q
end

/-! ### P: a walked thing of an expression that changes nothing -/
def ISo (K : PySem.W.Frag) (wi : TI) (f : En → Option (List D)) : Prop := ∀ (ε : En) (σ : L2.St) (H : Hp) (ds : List D) (R : It → Hp → Prop), OkR K ε σ H → f ε = some ds → (∀ J H', Same H H' → WD K H' J ds → R J H') → wi σ H R
structure PIt (X : Cx) (tg e : Expr) (wi : TI) (f : En → Option (List D)) : Prop where
  pi : PI X tg e wi
  so : ISo X.K wi f
def iOf (gi : List D → Option (List D)) (fs : En → Option (List D)) : En → Option (List D) := fun ε => (fs ε).bind gi
section
variable {X : Cx} {tg a e : Expr} {es : List Expr} {ri : List V → Hp → (It → Hp → Prop) → Prop} {gi : List D → Option (List D)} {t : TA} {fs : En → Option (List D)} {ta : TE} {fa : FE}
theorem pi_of (v : PItV X tg e es ri gi) (ha : PAr X es t fs) : PIt X tg e (fun σ H R => t σ H fun vs H1 => ri vs H1 R) (iOf gi fs) := by
  refine ⟨v.pi ha.pa, fun ε σ H ds R ok q k => ?_⟩
  obtain ⟨xs, q1, q⟩ := bindSome q
  exact ha.so ε σ H xs _ ok q1 fun vs H1 s1 r1 => v.v vs xs ds H1 H1 R r1 (Sm.refl H1) q fun J w => k J H1 s1 w
def iAnyK (K : PySem.W.Frag) (te : TE) : TI := fun σ H R => te σ H fun x H1 => ∃ (k : Kd) (xs : List V), x = k.v ∧ k.items K H1 xs ∧ R (ItK K k) H1
def iSelf (f : FE) : En → Option (List D) := fun ε => (f ε).bind itemsS
theorem pi_self {K : PySem.W.Frag} (ha : PP X a ta fa) (hK : X.K = K := by rfl) : PIt X tg a (iAnyK K ta) (iSelf fa) := by
  subst hK
  refine ⟨pi_anyK ha.pe, fun ε σ H ds R ok q k => ?_⟩
  obtain ⟨x, q1, q⟩ := bindSome q
  refine ha.so ε σ H x _ ok q1 fun v H1 s1 r1 => ?_
  obtain ⟨kd, ys, rfl, h1, h2⟩ := kdOf r1 q
  exact ⟨kd, ys, rfl, h1, k _ H1 s1 (wd_any h1 h2)⟩
end

/-! ### targets, reading -/
abbrev Bd := D → En → Option En
def GSo (K : PySem.W.Frag) (g : TG) (vs : List Nat) (b : Bd) : Prop := ∀ (d : D) (ε ε' : En) (σ : L2.St) (H : Hp) (v : V) (Q : L2.St → Hp → Prop), OkR K ε σ H → Rep K H v d → b d ε = some ε' →
  (∀ σ', OkR K ε' σ' H → σ'.length = σ.length → (∀ j, j ∉ vs → σ'[j]? = σ[j]?) → Q σ' H) → g v σ H Q
structure PGt (X : Cx) (tg : Expr) (g : TG) (vs : List Nat) (b : Bd) : Prop where
  pg : PG X tg g
  so : GSo X.K g vs b
def bName (i : Nat) : Bd := fun d ε => some (ε.set i (.bo d))
theorem get_set {ε : En} {i j : Nat} {s : Slot} : get (ε.set i s) j = if i = j ∧ i < ε.length then s.val else get ε j := by
  unfold get
  rw [List.getElem?_set]
  by_cases h : i = j
  · subst h
    by_cases hl : i < ε.length
    · simp [hl]
    · simp only [hl, and_false, if_false, if_true]
      rw [List.getElem?_eq_none (by omega)]
  · simp [h]
theorem OkR.set {K : PySem.W.Frag} {ε : En} {σ : L2.St} {H : Hp} (o : OkR K ε σ H) {v : V} {d : D} {s : Slot} (hs : s.val = some d) (r : Rep K H v d) (i : Nat) : OkR K (ε.set i s) (σ.set i (some v)) H := by
  refine ⟨by simp [o.len], fun j e h => ?_⟩
  rw [get_set] at h
  split at h
  · rename_i hc
    obtain ⟨rfl, hl⟩ := hc
    rw [hs] at h; cases h
    exact ⟨v, by rw [List.getElem?_set_self (by rw [← o.len]; exact hl)], r⟩
  · rename_i hc
    obtain ⟨u, hu, q⟩ := o.at_ j e h
    refine ⟨u, ?_, q⟩
    by_cases hij : i = j
    · subst hij
      have hl : ¬ i < ε.length := fun z => hc ⟨rfl, z⟩
      rw [List.getElem?_eq_none (by rw [← o.len]; omega)] at hu
      cases hu
    · rw [List.getElem?_set_ne hij]; exact hu
section
variable {X : Cx} {tg : Expr} {pos : Pos}
theorem gt_name (i : Nat) {x : Str} (hN : X.N.Nodup) (hi : X.N[i]? = some x := by rfl) (hx : Loc X.env.scope x := by first | exact Or.inl rfl | exact Or.inr rfl) (hf : X.fn x = true ∨ X.env.scope.names.lookup x = some .local := by first | exact .inl rfl | exact .inr rfl | assumption) :
    PGt X (.Name x pos) (gName i) [i] (bName i) := by
  refine ⟨pg_name hN hi hx hf, fun d ε ε' σ H v Q ok r q k => ?_⟩
  cases q
  exact k _ (ok.set (s := .bo d) rfl r i) (by simp) fun j hj => List.getElem?_set_ne (fun e => hj (by simp [e]))
abbrev Bds := List D → En → Option En
def GsSo (K : PySem.W.Frag) (g : TGs) (vs : List Nat) (b : Bds) : Prop := ∀ (ds : List D) (ε ε' : En) (σ : L2.St) (H : Hp) (us : List V) (Q : L2.St → Hp → Prop), OkR K ε σ H → RepL K H us ds → b ds ε = some ε' →
  (∀ σ', OkR K ε' σ' H → σ'.length = σ.length → (∀ j, j ∉ vs → σ'[j]? = σ[j]?) → Q σ' H) → g us σ H Q
structure PGs' (X : Cx) (ts : List Expr) (g : TGs) (vs : List Nat) (b : Bds) : Prop where
  pg : PGs X ts g
  so : GsSo X.K g vs b
def bNil : Bds := fun ds ε => match ds with
  | [] => some ε
  | _ => none
def bCons (b : Bd) (r : Bds) : Bds := fun ds ε => match ds with
  | d :: ds => (b d ε).bind (r ds)
  | _ => none
theorem gs_nil : PGs' X [] gNil [] bNil := by
  refine ⟨pgs_nil, fun ds ε ε' σ H us Q ok r q k => ?_⟩
  cases r with
  | nil => cases q; exact ⟨rfl, k σ ok rfl fun _ _ => rfl⟩
  | cons _ _ => cases q
theorem gs_cons {ts : List Expr} {g : TG} {gs : TGs} {vs ws : List Nat} {b : Bd} {bs : Bds} (h1 : PGt X tg g vs b) (h2 : PGs' X ts gs ws bs) (hs : (assignEach (tg :: ts) X.env).map (·.2) = assign tg X.env :: (assignEach ts X.env).map (·.2) := by rfl) :
    PGs' X (tg :: ts) (gCons g gs) (vs ++ ws) (bCons b bs) := by
  refine ⟨pgs_cons h1.pg h2.pg hs, fun ds ε ε' σ H us Q ok r q k => ?_⟩
  cases r with
  | nil => cases q
  | cons r rr =>
    obtain ⟨ε1, q1, q⟩ := bindSome q
    refine ⟨_, _, rfl, h1.so _ ε ε1 σ H _ _ ok r q1 fun σ1 ok1 l1 f1 => ?_⟩
    refine h2.so _ ε1 ε' σ1 H _ _ ok1 rr q fun σ2 ok2 l2 f2 => k σ2 ok2 (l2.trans l1) fun j hj => ?_
    simp only [List.mem_append, not_or] at hj
    rw [f2 j hj.2, f1 j hj.1]
def bTup (bs : Bds) : Bd := fun d ε => match d with
  | .tuple ds => bs ds ε
  | _ => none
theorem gt_tup {K : PySem.W.Frag} {es : List Expr} {k : Nat} {g : TGs} {n : Nat} {vs : List Nat} {bs : Bds} (h : PGs' X es g vs bs) (hl : ∀ (ds : List D) (ε ε' : En), bs ds ε = some ε' → ds.length = n) (hc : X.calm = true := by rfl)
    (hn : (assignEach es X.env).length = n := by rfl) (hst : (assignEach es X.env).findIdx? (·.1) = none := by rfl) (hK : X.K = K := by rfl) : PGt X (.Tuple es k pos) (gTup K n g) vs (bTup bs) := by
  subst hK
  refine ⟨pg_tup hc h.pg hn hst, fun d ε ε' σ H v Q ok r q k => ?_⟩
  cases r with
  | tup h1 r =>
    exact ⟨_, _, rfl, h1, by rw [r.length]; exact hl _ _ _ q, h.so _ ε ε' σ H _ Q ok r q k⟩
  | _ => cases q
end
theorem bl_nil : ∀ (ds : List D) (ε ε' : En), bNil ds ε = some ε' → ds.length = 0 := fun ds ε ε' h => by
  cases ds with
  | nil => rfl
  | cons _ _ => cases h
theorem bl_cons {b : Bd} {bs : Bds} {n : Nat} (h : ∀ (ds : List D) (ε ε' : En), bs ds ε = some ε' → ds.length = n) : ∀ (ds : List D) (ε ε' : En), bCons b bs ds ε = some ε' → ds.length = n + 1 := fun ds ε ε' q => by
  cases ds with
  | nil => cases q
  | cons d r =>
    obtain ⟨ε1, q1, q⟩ := bindSome q
    rw [List.length_cons, h _ _ _ q]

/-! ### [elt for target in iter if test] -/
def wipeE (ε : En) : List Nat → En
  | [] => ε
  | v :: vs => (wipeE ε vs).set v .no
theorem OkR.wiped {K : PySem.W.Frag} {ε : En} {σ : L2.St} {H : Hp} (o : OkR K ε σ H) : ∀ vs : List Nat, OkR K (wipeE ε vs) (wipe σ vs) H
  | [] => o
  | v :: vs => by
    have ih := o.wiped vs
    refine ⟨by simp [wipeE, wipe, ih.len], fun j e h => ?_⟩
    unfold wipeE at h
    rw [get_set] at h
    split at h
    · cases h
    · rename_i hc
      obtain ⟨u, hu, q⟩ := ih.at_ j e h
      refine ⟨u, ?_, q⟩
      unfold wipe
      by_cases hij : v = j
      · subst hij
        have hl : ¬ v < (wipeE ε vs).length := fun z => hc ⟨rfl, z⟩
        rw [List.getElem?_eq_none (by rw [← ih.len]; omega)] at hu
        cases hu
      · rw [List.getElem?_set_ne hij]; exact hu
theorem wipe_get {σ : L2.St} {j : Nat} : ∀ {vs : List Nat}, j ∉ vs → (wipe σ vs)[j]? = σ[j]?
  | [], _ => rfl
  | v :: vs, h => by
    simp only [List.mem_cons, not_or] at h
    unfold wipe
    rw [List.getElem?_set_ne (fun e => h.1 e.symm), wipe_get h.2]
theorem wipe_in {σ : L2.St} {j : Nat} : ∀ {vs : List Nat}, j ∈ vs → j < σ.length → (wipe σ vs)[j]? = some none
  | v :: vs, h, hl => by
    unfold wipe
    by_cases e : v = j
    · subst e
      rw [List.getElem?_set_self (by rw [wipe_length]; exact hl)]
    · rw [List.getElem?_set_ne e]
      exact wipe_in ((List.mem_cons.mp h).resolve_left (fun z => e z.symm)) hl
theorem wipe_same {σ σ' : L2.St} {vs : List Nat} (hl : σ'.length = σ.length) (h : ∀ j, j ∉ vs → σ'[j]? = (wipe σ vs)[j]?) : wipe σ' vs = wipe σ vs := by
  refine List.ext_getElem? fun j => ?_
  by_cases hj : j ∈ vs
  · by_cases hlt : j < σ.length
    · rw [wipe_in hj hlt, wipe_in hj (by rw [hl]; exact hlt)]
    · rw [List.getElem?_eq_none (by rw [wipe_length]; omega), List.getElem?_eq_none (by rw [wipe_length]; omega)]
  · rw [wipe_get hj, h j hj]
def compL (b : Bd) (tt : En → Option Bool) (el : FE) (ε : En) : List D → Option (List D)
  | [] => some []
  | d :: ds => (b d ε).bind fun ε1 => (tt ε1).bind fun c => if c then (el ε1).bind fun y => (compL b tt el ε ds).map (y :: ·) else compL b tt el ε ds
def eLc (vs : List Nat) (it : En → Option (List D)) (b : Bd) (tt : En → Option Bool) (el : FE) : FE := fun ε => (it ε).bind fun ds => if ds.length ≤ cap then (compL b tt el (wipeE ε vs) ds).map .list else none
/-- the test of a clause -/
structure PTs' (X : Cx) (ifs : List Expr) (t : TT) (f : En → Option Bool) : Prop where
  pt : PTs X ifs t
  so : TSo X.K t f
def bTrue : En → Option Bool := fun _ => some true
theorem ts_nil {X : Cx} : PTs' X [] tYes bTrue := ⟨pts_nil, fun ε σ H b Q ok q k => by cases q; exact k H (Same.refl H)⟩
theorem ts_one {X : Cx} {c : Expr} {t : TT} {f : En → Option Bool} (h : PTt X c t f) : PTs' X [c] t f := ⟨pts_one h.pt, h.so⟩
theorem so_lc {K : PySem.W.Frag} {wi : TI} {g : TG} {tt : TT} {te : TE} {vs : List Nat} {it : En → Option (List D)} {b : Bd} {ft : En → Option Bool} {fe : FE} (hi : ISo K wi it) (hg : GSo K g vs b) (ht : TSo K tt ft) (he : FSo K te fe) :
    FSo K (tLc wi g tt te vs) (eLc vs it b ft fe) := by
  intro ε σ H d Q ok q k
  obtain ⟨ds, q1, q⟩ := bindSome q
  split at q
  · rename_i hcap
    obtain ⟨out, q2, rfl⟩ := Option.map_eq_some_iff.mp q
    refine hi ε σ H ds _ ok q1 fun J H1 s1 ⟨G, Y, w, hG, hY⟩ => ?_
    intro Dd hD
    refine lc_it w (fun i H2 => ∃ (acc : List V) (done rest : List D), H2 Dd = some (.lst acc) ∧ acc.length ≤ i ∧ Same H1 H2 ∧ compL b ft fe (wipeE ε vs) (ds.drop i) = some rest ∧ out = done ++ rest ∧
        ∃ fp, RpL K H2 acc done fp ∧ fp.Nodup ∧ ∀ a ∈ fp, H1 a = none ∧ a ≠ Dd) ?_ (fun i H2 _ ⟨acc, done, rest, h1, h2, h3, h4⟩ => hG H2 (smOf h3)) ?_ ?_
    · exact ⟨[], [], out, upd_same, Nat.le_refl _, sameNew hD _, by simpa using q2, rfl, [], .nil, .nil, fun _ z => nomatch z⟩
    · rintro i x H2 H3 hi ⟨acc, done, rest, hacc, hlen, s2, hrest, hout, fp, rfp, nfp, ffp⟩ y
      obtain ⟨s3, d, hd, rd⟩ := hY i H2 x H3 (smOf s2) y
      have hdrop : ds.drop i = d :: ds.drop (i + 1) := by
        have h1 : i < ds.length := hi
        rw [List.drop_eq_getElem_cons h1]
        rw [List.getElem?_eq_getElem h1] at hd
        cases hd; rfl
      rw [hdrop] at hrest
      obtain ⟨ε1, qb, hrest⟩ := bindSome hrest
      obtain ⟨c, qt, hrest⟩ := bindSome hrest
      have okw : OkR K (wipeE ε vs) (wipe σ vs) H3 := (ok.same ((s1.trans s2).trans s3)).wiped vs
      refine hg d (wipeE ε vs) ε1 (wipe σ vs) H3 x _ okw (rd.mono (tov_le (smOf (s2.trans s3)))) qb fun σ2 ok2 l2 f2 => ?_
      refine ⟨wipe_same (l2.trans (wipe_length σ vs)) f2, ?_⟩
      refine ht ε1 σ2 H3 c _ ok2 qt fun H4 s4 => ?_
      have s24 := s3.trans s4
      cases c with
      | true =>
        rw [if_pos rfl] at hrest ⊢
        obtain ⟨yv, qe, hrest⟩ := bindSome hrest
        obtain ⟨rest', hrest', rfl⟩ := Option.map_eq_some_iff.mp hrest
        refine he ε1 σ2 H4 yv _ (ok2.same s4) qe fun u H5 s5 ⟨fq, rq, nq, fqn⟩ => ?_
        have s25 := s24.trans s5
        refine ⟨acc, s25 _ _ hacc, Nat.lt_of_le_of_lt hlen (Nat.lt_of_lt_of_le hi (Nat.le_trans hcap (by unfold cap; decide))), ?_⟩
        have hDn : H1 Dd = none := hD
        have dq : ∀ a ∈ fq, a ≠ Dd := fun a ha e => by
          have := fqn a ha
          rw [e, s24 _ _ hacc] at this
          cases this
        have tk : ∀ a xs, SqT K H5 a xs → SqT K (upd H5 Dd (.lst (acc ++ [u]))) a xs := fun a xs hx => by
          rcases hx with hx | hx
          · have na : a ≠ Dd := by
              rintro rfl
              have e5 := s25 _ _ hacc
              rcases hx with hx | ⟨o, hx⟩ <;> (rw [e5] at hx; cases hx)
            refine .inl ?_
            rcases hx with hx | ⟨o, hx⟩
            · exact .inl (by rw [upd_ne na]; exact hx)
            · exact .inr ⟨o, by rw [upd_ne na]; exact hx⟩
          · exact .inr hx
        refine ⟨acc ++ [u], done ++ [yv], rest', upd_same, by rw [List.length_append]; simp; omega, fun bb o e => ?_, hrest', by rw [hout, List.append_assoc]; rfl, fp ++ fq, ?_, ?_, ?_⟩
        · have nb : bb ≠ Dd := ne_of_none e hDn
          rw [upd_ne nb]
          exact s25 _ _ (s2 _ _ e)
        · have r1 : RpL K H5 acc done fp := rfp.same s25
          have r2 : RpL K H5 [u] [yv] fq := by simpa using RpL.cons rq .nil
          refine (r1.append r2).keep tk fun a ha => ?_
          have na : a ≠ Dd := by
            rcases List.mem_append.mp ha with ha | ha
            · exact (ffp a ha).2
            · exact dq a ha
          exact upd_ne na
        · refine List.nodup_append.mpr ⟨nfp, nq, fun a ha b' hb e => ?_⟩
          subst e
          have t1 := rfp.there a ha
          have t2 := fqn a hb
          cases z : H2 a with
          | none => exact t1 z
          | some o => rw [s24 _ _ z] at t2; cases t2
        · intro a ha
          rcases List.mem_append.mp ha with ha | ha
          · exact ffp a ha
          · exact ⟨Sm.free (s2.trans s24) (fqn a ha), dq a ha⟩
      | false =>
        rw [if_neg Bool.false_ne_true] at hrest ⊢
        exact ⟨acc, done, rest, s24 _ _ hacc, by omega, s2.trans s24, hrest, hout, fp, rfp.same s24, nfp, ffp⟩
    · rintro H2 ⟨acc, done, rest, hacc, hlen, s2, hrest, hout, fp, rfp, nfp, ffp⟩
      rw [List.drop_length] at hrest
      cases hrest
      rw [List.append_nil] at hout
      subst hout
      refine k _ H2 (s1.trans s2) ⟨Dd :: fp, .lst hacc rfp, List.nodup_cons.mpr ⟨fun z => (ffp _ z).2 rfl, nfp⟩, fun a ha => ?_⟩
      rcases List.mem_cons.mp ha with rfl | ha
      · exact Sm.free s1 hD
      · exact Sm.free s1 (ffp a ha).1
  · cases q
section
variable {X : Cx} {elt tg iter : Expr} {ifs : List Expr} {scope : Scope} {own : List (Str × Nat)} {pos : Pos} {wi : TI} {g : TG} {tt : TT} {te : TE} {it : En → Option (List D)} {b : Bd} {ft : En → Option Bool} {fe : FE}
theorem pf_lc {own : List (Str × Nat)} (hN : X.N.Nodup) (hi : PIt X tg iter wi it) (ok : BlkOk X.N X.env.scope scope own)
    (hg : ∀ (s : Shared) (H : Hp) (C : Addr) (cl : List (Str × Addr)) (fp : List Addr), PGt (X.blk s H scope (compEnvC scope cl C X.env) fp) tg g (own.map (·.2)) b)
    (ht : ∀ (s : Shared) (H : Hp) (C : Addr) (cl : List (Str × Addr)) (fp : List Addr), PTs' (X.blk s H scope (compEnvC scope cl C X.env) fp) ifs tt ft)
    (he : ∀ (s : Shared) (H : Hp) (C : Addr) (cl : List (Str × Addr)) (fp : List Addr), PF (X.blk s H scope (compEnvC scope cl C X.env) fp) elt te fe)
    (hc : X.calm = true := by rfl) (hs : ∀ x, foldedSetIterable iter X.env x = pure x := by intro _; rfl) :
    PF X (.ListComp elt [⟨tg, iter, ifs, 0⟩] scope pos) (tLc wi g tt te (own.map (·.2))) (eLc (own.map (·.2)) it b ft fe) := by
  refine ⟨pe_lc hc hN hi.pi ok (fun s H C cl fp => (hg s H C cl fp).pg) (fun s H C cl fp => (ht s H C cl fp).pt) (fun s H C cl fp => (he s H C cl fp).pe) hs, ?_⟩
  exact so_lc hi.so (hg {} (fun _ => none) (0 : Nat) [] []).so (ht {} (fun _ => none) (0 : Nat) [] []).so (he {} (fun _ => none) (0 : Nat) [] []).so
end
end Pd

set_option Elab.async false
set_option linter.all false
set_option maxRecDepth 100000
set_option maxHeartbeats 4000000
/-! Pd7: who owns which lists: the state of a def's body; expressions that may change it. -/
namespace Pd
open PySem PySem.Spec PyProof.Rows L2

theorem tov_le' {B H : Hp} (e : Same B H) : Same (tov B H) H := fun a o h => by
  unfold tov at h
  cases q : B a with
  | none =>
    rw [q] at h
    simp only at h
    split at h
    · exact h
    · cases h
  | some u => rw [q] at h; cases h; exact e a o q

/-! ### things owned: their lists and dicts lie apart, and apart from the base -/
inductive RpP (K : PySem.W.Frag) (H : Hp) : List (V × D) → List Addr → Prop
  | nil : RpP K H [] []
  | cons {v : V} {d : D} {L : List (V × D)} {f g : List Addr} : Rp K H v d f → RpP K H L g → RpP K H ((v, d) :: L) (f ++ g)
def Owns (K : PySem.W.Frag) (H B : Hp) (L : List (V × D)) : Prop := ∃ fp, RpP K H L fp ∧ fp.Nodup ∧ ∀ a ∈ fp, B a = none
section
variable {K : PySem.W.Frag} {H H' B B' : Hp}
mutual
theorem Rp.cell : ∀ {v : V} {d : D} {fp : List Addr}, Rp K H v d fp → ∀ a ∈ fp, (∃ xs, H a = some (.lst xs)) ∨ ∃ u ks xs, H a = some u ∧ DicV u ks xs
  | _, _, _, .non, _, z => nomatch z
  | _, _, _, .bl b, _, z => nomatch z
  | _, _, _, .int i, _, z => nomatch z
  | _, _, _, .str x, _, z => nomatch z
  | _, _, _, .lst h r, a, z => by
    rcases List.mem_cons.mp z with rfl | z
    · exact .inl ⟨_, h⟩
    · exact RpL.cell r a z
  | _, _, _, .tup h r, a, z => RpL.cell r a z
  | _, _, _, .dic h q r e, a, z => by
    rcases List.mem_cons.mp z with rfl | z
    · exact .inr ⟨_, _, _, h, q⟩
    · exact RpL.cell r a z
theorem RpL.cell : ∀ {vs : List V} {ds : List D} {fp : List Addr}, RpL K H vs ds fp → ∀ a ∈ fp, (∃ xs, H a = some (.lst xs)) ∨ ∃ u ks xs, H a = some u ∧ DicV u ks xs
  | _, _, _, .nil, _, z => nomatch z
  | _, _, _, .cons r t, a, z => by
    rcases List.mem_append.mp z with z | z
    · exact Rp.cell r a z
    · exact RpL.cell t a z
end
theorem cell_notTup {a : Addr} (h : (∃ xs, H a = some (.lst xs)) ∨ ∃ u ks xs, H a = some u ∧ DicV u ks xs) : isTup (H a) = false := by
  rcases h with ⟨xs, h⟩ | ⟨u, ks, xs, h, q⟩
  · rw [h]; rfl
  · rw [h]; cases q <;> rfl
theorem RpP.there {L : List (V × D)} {fp : List Addr} (r : RpP K H L fp) : ∀ a ∈ fp, H a ≠ none := by
  induction r with
  | nil => intro a z; cases z
  | cons r t ih =>
    intro a z
    rcases List.mem_append.mp z with z | z
    · exact r.there a z
    · exact ih a z
theorem RpP.cell {L : List (V × D)} {fp : List Addr} (r : RpP K H L fp) : ∀ a ∈ fp, isTup (H a) = false := by
  induction r with
  | nil => intro a z; cases z
  | cons r t ih =>
    intro a z
    rcases List.mem_append.mp z with z | z
    · exact cell_notTup (r.cell a z)
    · exact ih a z
theorem RpP.keep (ht : ∀ a xs, SqT K H a xs → SqT K H' a xs) {L : List (V × D)} {fp : List Addr} (r : RpP K H L fp) : (∀ a ∈ fp, H' a = H a) → RpP K H' L fp := by
  induction r with
  | nil => intro _; exact .nil
  | cons r t ih => intro k; exact .cons (r.keep ht fun a ha => k a (List.mem_append_left _ ha)) (ih fun a ha => k a (List.mem_append_right _ ha))
theorem RpP.same (e : Same H H') {L : List (V × D)} {fp : List Addr} (r : RpP K H L fp) : RpP K H' L fp := by
  refine r.keep (fun _ _ h => (smOf e).sqt h) fun a ha => ?_
  have := r.there a ha
  cases q : H a with
  | none => exact absurd q this
  | some o => exact e _ _ q
theorem RpP.perm {L L' : List (V × D)} (p : L.Perm L') : ∀ {fp : List Addr}, RpP K H L fp → ∃ fp', RpP K H L' fp' ∧ fp'.Perm fp := by
  induction p with
  | nil => intro fp r; exact ⟨fp, r, .refl _⟩
  | cons x _ ih =>
    intro fp r
    cases r with
    | cons r t =>
      obtain ⟨g', r', p'⟩ := ih t
      exact ⟨_, .cons r r', p'.append_left _⟩
  | swap x y l =>
    intro fp r
    cases r with
    | cons r t =>
      cases t with
      | @cons v d L f g r2 t =>
        refine ⟨_, .cons r2 (.cons r t), ?_⟩
        rw [← List.append_assoc, ← List.append_assoc]
        exact List.perm_append_comm.append_right _
  | trans _ _ ih1 ih2 =>
    intro fp r
    obtain ⟨f1, r1, p1⟩ := ih1 r
    obtain ⟨f2, r2, p2⟩ := ih2 r1
    exact ⟨f2, r2, p2.trans p1⟩
theorem RpP.sub {L L' : List (V × D)} (p : L'.Sublist L) : ∀ {fp : List Addr}, RpP K H L fp → ∃ fp', RpP K H L' fp' ∧ fp'.Sublist fp := by
  induction p with
  | slnil => intro fp r; exact ⟨fp, r, .refl _⟩
  | cons x _ ih =>
    intro fp r
    cases r with
    | cons r t =>
      obtain ⟨g', r', p'⟩ := ih t
      exact ⟨g', r', p'.trans (List.sublist_append_right _ _)⟩
  | cons_cons x _ ih =>
    intro fp r
    cases r with
    | cons r t =>
      obtain ⟨g', r', p'⟩ := ih t
      exact ⟨_, .cons r r', p'.append_left _⟩
theorem RpP.rep {L : List (V × D)} {fp : List Addr} (r : RpP K H L fp) : ∀ {v : V} {d : D}, (v, d) ∈ L → Rep K H v d := by
  induction r with
  | nil => intro v d h; cases h
  | cons r t ih =>
    intro v d h
    rcases List.mem_cons.mp h with h | h
    · cases h; exact r.rep
    · exact ih h
theorem Owns.perm {L L' : List (V × D)} (o : Owns K H B L) (p : L.Perm L') : Owns K H B L' := by
  obtain ⟨fp, r, nd, f⟩ := o
  obtain ⟨fp', r', p'⟩ := r.perm p
  exact ⟨fp', r', p'.nodup_iff.mpr nd, fun a ha => f a (p'.mem_iff.mp ha)⟩
theorem Owns.sub {L L' : List (V × D)} (o : Owns K H B L) (p : L'.Sublist L) : Owns K H B L' := by
  obtain ⟨fp, r, nd, f⟩ := o
  obtain ⟨fp', r', p'⟩ := r.sub p
  exact ⟨fp', r', nd.sublist p', fun a ha => f a (p'.subset ha)⟩
theorem Owns.rep {L : List (V × D)} (o : Owns K H B L) {v : V} {d : D} (h : (v, d) ∈ L) : Rep K H v d := let ⟨_, r, _⟩ := o; r.rep h
theorem Owns.nil : Owns K H B [] := ⟨[], .nil, .nil, fun _ z => nomatch z⟩
/-- a frozen thing more -/
theorem Owns.frz {L : List (V × D)} (o : Owns K H B L) {v : V} {d : D} (r : Rep K H v d) (h : frozen d = true) : Owns K H B ((v, d) :: L) := by
  obtain ⟨fp, r', nd, f⟩ := o
  exact ⟨[] ++ fp, .cons (r.frz h) r', by simpa using nd, by simpa using f⟩
/-- a new thing more -/
theorem Owns.new {L : List (V × D)} (o : Owns K H B L) (sm : Same B H) (e : Same H H') {v : V} {d : D} (n : New K H H' v d) : Owns K H' B ((v, d) :: L) := by
  obtain ⟨fp, r, nd, f⟩ := o
  obtain ⟨fq, rq, nq, g⟩ := n
  refine ⟨fq ++ fp, .cons rq (r.same e), List.nodup_append.mpr ⟨nq, nd, fun a ha b hb z => ?_⟩, fun a ha => ?_⟩
  · subst z
    exact r.there a hb (g a ha)
  · rcases List.mem_append.mp ha with ha | ha
    · exact Sm.free sm (g a ha)
    · exact f a ha
theorem Owns.same {L : List (V × D)} (o : Owns K H B L) (e : Same H H') : Owns K H' B L := by
  obtain ⟨fp, r, nd, f⟩ := o
  exact ⟨fp, r.same e, nd, f⟩
/-- a smaller base -/
theorem Owns.base {L : List (V × D)} (o : Owns K H B' L) (e : Same B B') : Owns K H B L := by
  obtain ⟨fp, r, nd, f⟩ := o
  exact ⟨fp, r, nd, fun a ha => Sm.free e (f a ha)⟩
/-- what was owned is put to the base: it stays for good -/
theorem Owns.pin {L : List (V × D)} {v : V} {d : D} (sm : Same B H) (o : Owns K H B ((v, d) :: L)) : ∃ B', Same B B' ∧ Same B' H ∧ Rep K B' v d ∧ Owns K H B' L := by
  obtain ⟨fp, r, nd, f⟩ := o
  cases r with
  | @cons _ _ _ fv g rv rl =>
    obtain ⟨n1, n2, n3⟩ := List.nodup_append.mp nd
    have hB : ∀ a, (fun a => if a ∈ fv then H a else tov B H a : Hp) a = if a ∈ fv then H a else tov B H a := fun _ => rfl
    refine ⟨fun a => if a ∈ fv then H a else tov B H a, fun a o q => ?_, fun a o q => ?_, ?_, g, rl, n2, fun a ha => ?_⟩
    · have na : a ∉ fv := fun z => by rw [f a (List.mem_append_left _ z)] at q; cases q
      show (if a ∈ fv then H a else tov B H a) = some o
      rw [if_neg na]; exact tov_in q
    · have q : (if a ∈ fv then H a else tov B H a) = some o := q
      split at q
      · exact q
      · exact tov_le' sm a o q
    · refine (rv.keep (H' := fun a => if a ∈ fv then H a else tov B H a) (fun a xs hx => ?_) fun a ha => by show (if a ∈ fv then H a else tov B H a) = H a; rw [if_pos ha]).rep
      rcases hx with hx | hx
      · have na : a ∉ fv := fun z => by
          have := cell_notTup (rv.cell a z)
          rcases hx with hx | ⟨o, hx⟩ <;> (rw [hx] at this; cases this)
        refine .inl ?_
        have key : ∀ u, H a = some u → isTup (some u) = true → (if a ∈ fv then H a else tov B H a) = some u := fun u hu ht => by
          rw [if_neg na]
          unfold tov
          cases q : B a with
          | none => simp only; rw [hu, if_pos ht]
          | some o => rw [sm a o q] at hu; exact hu
        rcases hx with hx | ⟨o, hx⟩
        · exact .inl (key _ hx rfl)
        · exact .inr ⟨o, key _ hx rfl⟩
      · exact .inr hx
    · show (if a ∈ fv then H a else tov B H a) = none
      rw [if_neg fun z => n3 a z a ha rfl]
      exact tov_none (f a (List.mem_append_right _ ha)) (rl.cell a ha)
end

/-! ### the state of a def's body -/
def Slot.mine : Slot → Option D
  | .ow d => some d
  | .io d => some d
  | _ => none
def slotsL : En → L2.St → List (V × D)
  | s :: ε, o :: σ => (match s.mine, o with
    | some d, some v => [(v, d)]
    | _, _ => []) ++ slotsL ε σ
  | _, _ => []
structure Ok (K : PySem.W.Frag) (io : Option (Nat × V)) (B : Hp) (ps : List (V × D)) (ε : En) (σ : L2.St) (H : Hp) : Prop where
  len : ε.length = σ.length
  sm : Same B H
  own : Owns K H B (ps ++ slotsL ε σ)
  has : ∀ (i : Nat) (s : Slot) (d : D), ε[i]? = some s → s.mine = some d → ∃ v, σ[i]? = some (some v)
  bo : ∀ (i : Nat) (d : D), ε[i]? = some (.bo d) → ∃ v, σ[i]? = some (some v) ∧ Rep K B v d
  io1 : ∀ (i : Nat) (d : D), ε[i]? = some (.io d) → ∃ v, io = some (i, v)
  io2 : ∀ (i : Nat) (v : V), io = some (i, v) → σ[i]? = some (some v) ∧ ∃ d, ε[i]? = some (.io d)
section
variable {K : PySem.W.Frag} {io : Option (Nat × V)} {B B' H H' : Hp} {ps : List (V × D)} {ε ε' : En} {σ : L2.St}
theorem slots_mem : ∀ {ε : En} {σ : L2.St} {i : Nat} {s : Slot} {d : D} {v : V}, ε[i]? = some s → s.mine = some d → σ[i]? = some (some v) → (v, d) ∈ slotsL ε σ
  | [], _, _, _, _, _, h, _, _ => by simp at h
  | _ :: _, [], _, _, _, _, _, _, h => by simp at h
  | s :: ε, o :: σ, 0, _, d, v, h, hm, h2 => by
    simp at h h2
    subst h h2
    simp [slotsL, hm]
  | s :: ε, o :: σ, i + 1, s', d, v, h, hm, h2 => by
    unfold slotsL
    exact List.mem_append_right _ (slots_mem (i := i) (by simpa using h) hm (by simpa using h2))
theorem Ok.okR (o : Ok K io B ps ε σ H) : OkR K ε σ H := by
  refine ⟨o.len, fun i d h => ?_⟩
  unfold get at h
  obtain ⟨s, hs, hv⟩ := bindSome h
  cases s with
  | no => cases hv
  | ow e =>
    cases hv
    obtain ⟨v, hv⟩ := o.has i _ _ hs rfl
    exact ⟨v, hv, o.own.rep (List.mem_append_right _ (slots_mem hs rfl hv))⟩
  | io e =>
    cases hv
    obtain ⟨v, hv⟩ := o.has i _ _ hs rfl
    exact ⟨v, hv, o.own.rep (List.mem_append_right _ (slots_mem hs rfl hv))⟩
  | bo e =>
    cases hv
    obtain ⟨v, hv, r⟩ := o.bo i _ hs
    exact ⟨v, hv, r.mono (smOf o.sm)⟩
/-- a slot taken out -/
theorem slots_out : ∀ {ε : En} {σ : L2.St} {i : Nat} {s : Slot} {d : D} {v : V} {s' : Slot}, ε[i]? = some s → s.mine = some d → σ[i]? = some (some v) → s'.mine = none → ((v, d) :: slotsL (ε.set i s') σ).Perm (slotsL ε σ)
  | [], _, _, _, _, _, _, h, _, _, _ => by simp at h
  | _ :: _, [], _, _, _, _, _, _, _, h, _ => by simp at h
  | s :: ε, o :: σ, 0, _, d, v, s', h, hm, h2, hm' => by
    simp at h h2
    subst h h2
    simp [slotsL, hm, hm']
  | s :: ε, o :: σ, i + 1, s1, d, v, s', h, hm, h2, hm' => by
    have ih := slots_out (ε := ε) (σ := σ) (i := i) (s' := s') (by simpa using h) hm (by simpa using h2) hm'
    simp only [List.set_cons_succ, slotsL]
    exact (List.perm_middle.symm).trans (ih.append_left _)
/-- a slot put in its place -/
theorem slots_put : ∀ {ε : En} {σ : L2.St} {i : Nat} {d : D} {v : V} {s' : Slot}, i < ε.length → ε.length = σ.length → s'.mine = some d → (slotsL (ε.set i s') (σ.set i (some v))).Perm ((v, d) :: slotsL (ε.set i .no) σ)
  | [], _, _, _, _, _, h, _, _ => by simp at h
  | _ :: _, [], _, _, _, _, _, h, _ => by simp at h
  | s :: ε, o :: σ, 0, d, v, s', h, hl, hm => by
    cases o <;> (simp only [List.set_cons_zero, slotsL, hm, show Slot.mine .no = none from rfl]; simp)
  | s :: ε, o :: σ, i + 1, d, v, s', h, hl, hm => by
    have ih := slots_put (ε := ε) (σ := σ) (i := i) (v := v) (by simpa using h) (by simpa using hl) hm
    simp only [List.set_cons_succ, slotsL]
    exact (ih.append_left _).trans List.perm_middle
theorem slots_del : ∀ {ε : En} {σ : L2.St} {i : Nat} {s' : Slot}, s'.mine = none → (slotsL (ε.set i s') σ).Sublist (slotsL ε σ)
  | [], _, _, _, _ => by simp [slotsL]
  | _ :: _, [], i, _, _ => by cases i <;> simp [slotsL]
  | s :: ε, o :: σ, 0, s', hm => by simp [slotsL, hm]
  | s :: ε, o :: σ, i + 1, s', hm => by
    simp only [List.set_cons_succ, slotsL]
    exact (slots_del hm).append_left _
theorem slots_no {ε : En} {σ : L2.St} {i : Nat} {s' : Slot} (hm : s'.mine = none) : slotsL (ε.set i s') σ = slotsL (ε.set i .no) σ := by
  induction ε generalizing σ i with
  | nil => rfl
  | cons s ε ih =>
    cases σ with
    | nil => cases i <;> simp [slotsL]
    | cons o σ =>
      cases i with
      | zero => simp only [List.set_cons_zero, slotsL, hm, show Slot.mine .no = none from rfl]
      | succ i => simp only [List.set_cons_succ, slotsL, ih]
/-- a new value behind an expression that changes nothing -/
theorem Ok.new (o : Ok K io B ps ε σ H) (e : Same H H') {v : V} {d : D} (n : New K H H' v d) : Ok K io B ((v, d) :: ps) ε σ H' :=
  ⟨o.len, o.sm.trans e, o.own.new o.sm e n, o.has, o.bo, o.io1, o.io2⟩
theorem Ok.same (o : Ok K io B ps ε σ H) (e : Same H H') : Ok K io B ps ε σ H' := ⟨o.len, o.sm.trans e, o.own.same e, o.has, o.bo, o.io1, o.io2⟩
theorem Ok.drop {v : V} {d : D} (o : Ok K io B ((v, d) :: ps) ε σ H) : Ok K io B ps ε σ H := ⟨o.len, o.sm, o.own.sub (List.sublist_cons_self _ _), o.has, o.bo, o.io1, o.io2⟩
theorem Ok.pin {v : V} {d : D} (o : Ok K io B ((v, d) :: ps) ε σ H) : ∃ B', Same B B' ∧ Rep K B' v d ∧ Ok K io B' ps ε σ H := by
  obtain ⟨B', s1, s2, r, ow⟩ := Owns.pin o.sm o.own
  exact ⟨B', s1, r, o.len, s2, ow, o.has, fun i e h => let ⟨v, hv, q⟩ := o.bo i e h; ⟨v, hv, q.mono (smOf s1)⟩, o.io1, o.io2⟩
theorem Ok.tups (o : Ok K io B ps ε σ H) : Ok K io (tov B H) ps ε σ H := by
  obtain ⟨fp, r, nd, f⟩ := o.own
  exact ⟨o.len, tov_le' o.sm, ⟨fp, r, nd, fun a ha => tov_none (f a ha) (r.cell a ha)⟩, o.has, fun i e h => let ⟨v, hv, q⟩ := o.bo i e h; ⟨v, hv, q.mono (smOf tov_ge)⟩, o.io1, o.io2⟩
theorem set_get {ε : En} {i j : Nat} {s t : Slot} (h : (ε.set i s)[j]? = some t) : (i = j ∧ s = t) ∨ (i ≠ j ∧ ε[j]? = some t) := by
  rw [List.getElem?_set] at h
  split at h
  · rename_i e
    split at h
    · cases h; exact .inl ⟨e, rfl⟩
    · cases h
  · rename_i e
    exact .inr ⟨e, h⟩
/-- a slot's thing is taken out -/
theorem Ok.move (o : Ok K io B ps ε σ H) {i : Nat} {d : D} {v : V} (h : ε[i]? = some (.ow d)) (hv : σ[i]? = some (some v)) : Ok K io B ((v, d) :: ps) (ε.set i .no) σ H := by
  refine ⟨by simpa using o.len, o.sm, o.own.perm ?_, fun j s e q hm => ?_, fun j e q => ?_, fun j e q => ?_, fun j u q => ?_⟩
  · exact ((slots_out h rfl hv rfl).symm.append_left ps).trans List.perm_middle
  · rcases set_get q with ⟨_, rfl⟩ | ⟨_, q⟩
    · cases hm
    · exact o.has j s e q hm
  · rcases set_get q with ⟨_, z⟩ | ⟨_, q⟩
    · cases z
    · exact o.bo j e q
  · rcases set_get q with ⟨_, z⟩ | ⟨_, q⟩
    · cases z
    · exact o.io1 j e q
  · obtain ⟨h1, d', h2⟩ := o.io2 j u q
    refine ⟨h1, d', ?_⟩
    have : i ≠ j := fun z => by subst z; rw [h] at h2; cases h2
    rw [List.getElem?_set_ne this]; exact h2
def notIo : Option Slot → Bool
  | some (.io _) => false
  | some _ => true
  | none => false
/-- name = value -/
theorem Ok.put {v : V} {d : D} (o : Ok K io B ((v, d) :: ps) ε σ H) {i : Nat} (h : notIo ε[i]? = true) : Ok K io B ps (ε.set i (.ow d)) (σ.set i (some v)) H := by
  have hl : i < ε.length := by
    cases q : ε[i]? with
    | none => rw [q] at h; cases h
    | some s => exact (List.getElem?_eq_some_iff.mp q).1
  have nio : ∀ j e, ε[j]? = some (.io e) → i ≠ j := fun j e q z => by subst z; rw [q] at h; cases h
  refine ⟨by simpa using o.len, o.sm, ?_, fun j s e q hm => ?_, fun j e q => ?_, fun j e q => ?_, fun j u q => ?_⟩
  · refine (o.own.sub (L' := (v, d) :: (ps ++ slotsL (ε.set i .no) σ)) ?_).perm ?_
    · exact ((slots_del rfl).append_left ps).cons_cons _
    · exact List.perm_middle.symm.trans ((slots_put hl o.len rfl).symm.append_left ps)
  · rcases set_get q with ⟨rfl, rfl⟩ | ⟨ne, q⟩
    · exact ⟨v, List.getElem?_set_self (by rw [← o.len]; exact hl)⟩
    · obtain ⟨u, hu⟩ := o.has j s e q hm
      exact ⟨u, by rw [List.getElem?_set_ne ne]; exact hu⟩
  · rcases set_get q with ⟨_, z⟩ | ⟨ne, q⟩
    · cases z
    · obtain ⟨u, hu, r⟩ := o.bo j e q
      exact ⟨u, by rw [List.getElem?_set_ne ne]; exact hu, r⟩
  · rcases set_get q with ⟨_, z⟩ | ⟨_, q⟩
    · cases z
    · exact o.io1 j e q
  · obtain ⟨h1, d', h2⟩ := o.io2 j u q
    have ne := nio j d' h2
    exact ⟨by rw [List.getElem?_set_ne ne]; exact h1, d', by rw [List.getElem?_set_ne ne]; exact h2⟩
/-- name = a thing of the base -/
theorem Ok.putB {v : V} {d : D} (o : Ok K io B ps ε σ H) (r : Rep K B v d) {i : Nat} (h : notIo ε[i]? = true) : Ok K io B ps (ε.set i (.bo d)) (σ.set i (some v)) H := by
  have hl : i < ε.length := by
    cases q : ε[i]? with
    | none => rw [q] at h; cases h
    | some s => exact (List.getElem?_eq_some_iff.mp q).1
  have nio : ∀ j e, ε[j]? = some (.io e) → i ≠ j := fun j e q z => by subst z; rw [q] at h; cases h
  have hs : slotsL (ε.set i (.bo d)) (σ.set i (some v)) = slotsL (ε.set i .no) σ := by
    have go : ∀ (ε : En) (σ : L2.St) (i : Nat), slotsL (ε.set i (.bo d)) (σ.set i (some v)) = slotsL (ε.set i .no) σ := by
      intro ε
      induction ε with
      | nil => intro σ i; rfl
      | cons s ε ih =>
        intro σ i
        cases σ with
        | nil => cases i <;> simp [slotsL]
        | cons o σ =>
          cases i with
          | zero => simp [slotsL, Slot.mine]
          | succ i => simp only [List.set_cons_succ, slotsL, ih]
    exact go ε σ i
  refine ⟨by simpa using o.len, o.sm, ?_, fun j s e q hm => ?_, fun j e q => ?_, fun j e q => ?_, fun j u q => ?_⟩
  · rw [hs]
    exact o.own.sub ((slots_del rfl).append_left ps)
  · rcases set_get q with ⟨rfl, rfl⟩ | ⟨ne, q⟩
    · cases hm
    · obtain ⟨u, hu⟩ := o.has j s e q hm
      exact ⟨u, by rw [List.getElem?_set_ne ne]; exact hu⟩
  · rcases set_get q with ⟨rfl, z⟩ | ⟨ne, q⟩
    · cases z
      exact ⟨v, List.getElem?_set_self (by rw [← o.len]; exact hl), r⟩
    · obtain ⟨u, hu, r⟩ := o.bo j e q
      exact ⟨u, by rw [List.getElem?_set_ne ne]; exact hu, r⟩
  · rcases set_get q with ⟨_, z⟩ | ⟨_, q⟩
    · cases z
    · exact o.io1 j e q
  · obtain ⟨h1, d', h2⟩ := o.io2 j u q
    have ne := nio j d' h2
    exact ⟨by rw [List.getElem?_set_ne ne]; exact h1, d', by rw [List.getElem?_set_ne ne]; exact h2⟩
/-- an own slot is put to the base -/
theorem Ok.lend (o : Ok K io B ps ε σ H) {i : Nat} {d : D} {v : V} (h : ε[i]? = some (.ow d)) (hv : σ[i]? = some (some v)) : ∃ B', Same B B' ∧ Rep K B' v d ∧ Ok K io B' ps (ε.set i (.bo d)) σ H := by
  obtain ⟨B', s1, r, o'⟩ := (o.move h hv).pin
  refine ⟨B', s1, r, ?_⟩
  have q := o'.putB r (i := i) (by rw [List.getElem?_set_self (List.getElem?_eq_some_iff.mp h).1]; rfl)
  rw [List.set_set] at q
  have e : σ.set i (some v) = σ := by
    refine List.ext_getElem? fun j => ?_
    by_cases hj : i = j
    · subst hj
      rw [List.getElem?_set_self (List.getElem?_eq_some_iff.mp hv).1, hv]
    · rw [List.getElem?_set_ne hj]
  rw [e] at q
  exact q
end

/-! ### expressions that may change the state: MM (the value is owned), MV (the value stands in the base) -/
abbrev FM := En → Option (D × En)
def MMo (K : PySem.W.Frag) (t : TE) (f : FM) : Prop := ∀ (io : Option (Nat × V)) (B : Hp) (ps : List (V × D)) (ε ε' : En) (σ : L2.St) (H : Hp) (d : D) (Q : VK), Ok K io B ps ε σ H → f ε = some (d, ε') →
  (∀ v B' H', Same B B' → Ok K io B' ((v, d) :: ps) ε' σ H' → Q v H') → t σ H Q
def MVo (K : PySem.W.Frag) (t : TE) (f : FM) : Prop := ∀ (io : Option (Nat × V)) (B : Hp) (ps : List (V × D)) (ε ε' : En) (σ : L2.St) (H : Hp) (d : D) (Q : VK), Ok K io B ps ε σ H → f ε = some (d, ε') →
  (∀ v B' H', Same B B' → Ok K io B' ps ε' σ H' → Rep K B' v d → Q v H') → t σ H Q
def MTo (K : PySem.W.Frag) (t : TT) (f : En → Option (Bool × En)) : Prop := ∀ (io : Option (Nat × V)) (B : Hp) (ps : List (V × D)) (ε ε' : En) (σ : L2.St) (H : Hp) (b : Bool) (Q : Bool → Hp → Prop), Ok K io B ps ε σ H → f ε = some (b, ε') →
  (∀ B' H', Same B B' → Ok K io B' ps ε' σ H' → Q b H') → t σ H Q
def MAo (K : PySem.W.Frag) (t : TA) (f : En → Option (List D × En)) : Prop := ∀ (io : Option (Nat × V)) (B : Hp) (ps : List (V × D)) (ε ε' : En) (σ : L2.St) (H : Hp) (ds : List D) (Q : List V → Hp → Prop), Ok K io B ps ε σ H → f ε = some (ds, ε') →
  (∀ vs B' H', Same B B' → Ok K io B' ps ε' σ H' → RepL K B' vs ds → Q vs H') → t σ H Q
structure MM (X : Cx) (e : Expr) (t : TE) (f : FM) : Prop where
  pe : PE X e t
  so : MMo X.K t f
structure MV (X : Cx) (e : Expr) (t : TE) (f : FM) : Prop where
  pe : PE X e t
  so : MVo X.K t f
structure MT (X : Cx) (e : Expr) (t : TT) (f : En → Option (Bool × En)) : Prop where
  pt : PT X e t
  so : MTo X.K t f
structure MW (X : Cx) (e : Expr) (t : TT) (f : En → Option (Bool × En)) : Prop where
  pw : PW X e t
  so : MTo X.K t f
structure MA (X : Cx) (es : List Expr) (t : TA) (f : En → Option (List D × En)) : Prop where
  pa : PA X es t
  so : MAo X.K t f
def mP (f : FE) : FM := fun ε => (f ε).map fun d => (d, ε)
def mT (f : En → Option Bool) : En → Option (Bool × En) := fun ε => (f ε).map fun d => (d, ε)
section
variable {X : Cx} {a b c e : Expr} {ta tb tc : TE} {fa fb fc : FE} {ma mb mc : FM} {pos p : Pos} {es : List Expr} {t : TA} {ms : En → Option (List D × En)} {x : Str} {tA tB' : TT} {ga gb : En → Option (Bool × En)} {rest : List Expr}
theorem mm_pf (h : PF X a ta fa) : MM X a ta (mP fa) := by
  refine ⟨h.pe, fun io B ps ε ε' σ H d Q o q k => ?_⟩
  obtain ⟨z, q1, q2⟩ := Option.map_eq_some_iff.mp q
  cases q2
  exact h.so ε σ H d Q o.okR q1 fun v H' s n => k v B H' (Same.refl B) (o.new s n)
theorem mv_mm (h : MM X a ta ma) : MV X a ta ma := by
  refine ⟨h.pe, fun io B ps ε ε' σ H d Q o q k => ?_⟩
  refine h.so io B ps ε ε' σ H d Q o q fun v B' H' s o' => ?_
  obtain ⟨B2, s1, r, o2⟩ := o'.pin
  exact k v B2 H' (s.trans s1) o2 r
theorem mv_pf (h : PF X a ta fa) : MV X a ta (mP fa) := mv_mm (mm_pf h)
/-- a name's thing as an argument: it is lent, for good -/
def mLend (i : Nat) : FM := fun ε => match ε[i]? with
  | some (.ow d) => some (d, ε.set i (if frozen d then .ow d else .bo d))
  | some (.bo d) => some (d, ε)
  | _ => none
theorem mv_var (i : Nat) {x : Str} (hN : X.N[i]? = some x := by rfl) (hv : Vis X.env.scope x := by first | exact Or.inl rfl | exact Or.inr (Or.inl rfl) | exact Or.inr (Or.inr rfl)) (hd : (x == ("__debug__" : Str)) = false := by decide)
    (hcd : (x == ("__classdict__" : Str)) = false := by decide) : MV X (.Name x pos) (tVar i) (mLend i) := by
  refine ⟨pe_var hN hv hd hcd, fun io B ps ε ε' σ H d Q o q k => ?_⟩
  unfold mLend at q
  split at q
  · rename_i d' hs
    obtain ⟨v, hv⟩ := o.has i _ d' hs rfl
    have r : Rep X.K H v d' := o.own.rep (List.mem_append_right _ (slots_mem hs rfl hv))
    by_cases hf : frozen d' = true
    · simp only [hf, if_true, Option.some.injEq, Prod.mk.injEq] at q
      obtain ⟨rfl, rfl⟩ := q
      have e : ε.set i (.ow d') = ε := by
        refine List.ext_getElem? fun j => ?_
        by_cases hj : i = j
        · subst hj
          rw [List.getElem?_set_self (List.getElem?_eq_some_iff.mp hs).1, hs]
        · rw [List.getElem?_set_ne hj]
      rw [e] at k
      obtain ⟨B2, s1, r2, o2⟩ := (show Ok X.K io B ((v, d') :: ps) ε σ H from ⟨o.len, o.sm, o.own.frz r hf, o.has, o.bo, o.io1, o.io2⟩).pin
      exact ⟨v, hv, k v B2 H s1 o2 r2⟩
    · rw [if_neg hf] at q
      simp only [Option.some.injEq, Prod.mk.injEq] at q
      obtain ⟨rfl, rfl⟩ := q
      obtain ⟨B', s1, r', o'⟩ := o.lend hs hv
      exact ⟨v, hv, k v B' H s1 o' r'⟩
  · rename_i d' hs
    cases q
    obtain ⟨v, hv, r⟩ := o.bo i _ hs
    exact ⟨v, hv, k v B H (Same.refl B) o r⟩
  · cases q
/-- a name's thing given away -/
def mMove (i : Nat) : FM := fun ε => match ε[i]? with
  | some (.ow d) => some (d, ε.set i (if frozen d then .ow d else .no))
  | _ => none
theorem mm_move (i : Nat) {x : Str} (hN : X.N[i]? = some x := by rfl) (hv : Vis X.env.scope x := by first | exact Or.inl rfl | exact Or.inr (Or.inl rfl) | exact Or.inr (Or.inr rfl)) (hd : (x == ("__debug__" : Str)) = false := by decide)
    (hcd : (x == ("__classdict__" : Str)) = false := by decide) : MM X (.Name x pos) (tVar i) (mMove i) := by
  refine ⟨pe_var hN hv hd hcd, fun io B ps ε ε' σ H d Q o q k => ?_⟩
  unfold mMove at q
  split at q
  · rename_i d' hs
    obtain ⟨v, hv⟩ := o.has i _ d' hs rfl
    have r : Rep X.K H v d' := o.own.rep (List.mem_append_right _ (slots_mem hs rfl hv))
    by_cases hf : frozen d' = true
    · simp only [hf, if_true, Option.some.injEq, Prod.mk.injEq] at q
      obtain ⟨rfl, rfl⟩ := q
      have e : ε.set i (.ow d') = ε := by
        refine List.ext_getElem? fun j => ?_
        by_cases hj : i = j
        · subst hj
          rw [List.getElem?_set_self (List.getElem?_eq_some_iff.mp hs).1, hs]
        · rw [List.getElem?_set_ne hj]
      rw [e] at k
      exact ⟨v, hv, k v B H (Same.refl B) ⟨o.len, o.sm, o.own.frz r hf, o.has, o.bo, o.io1, o.io2⟩⟩
    · rw [if_neg hf] at q
      simp only [Option.some.injEq, Prod.mk.injEq] at q
      obtain ⟨rfl, rfl⟩ := q
      exact ⟨v, hv, k v B H (Same.refl B) (o.move hs hv)⟩
  · cases q
def m2 (g : D → D → Option D) (f h : FM) : FM := fun ε => (f ε).bind fun x => (h x.2).bind fun y => (g x.1 y.1).map fun z => (z, y.2)
theorem so_m2 {K : PySem.W.Frag} {r : R2} {g : D → D → Option D} (o : OpV K r g) (ha : MVo K ta ma) (hb : MVo K tb mb) : MMo K (tOp r ta tb) (m2 g ma mb) := by
  intro io B ps ε ε' σ H d Q ok q k
  obtain ⟨⟨x, ε1⟩, q1, q⟩ := bindSome q
  obtain ⟨⟨y, ε2⟩, q2, q⟩ := bindSome q
  obtain ⟨z, q3, q4⟩ := Option.map_eq_some_iff.mp q
  cases q4
  refine ha io B ps ε ε1 σ H x _ ok q1 fun v B1 H1 s1 o1 r1 => ?_
  refine hb io B1 ps ε1 _ σ H1 y _ o1 q2 fun u B2 H2 s2 o2 r2 => ?_
  exact o v u x y _ H2 Q ((r1.mono (smOf s2)).mono (smOf o2.sm)) (r2.mono (smOf o2.sm)) q3 fun w H3 s3 n => k w B2 H3 (s1.trans s2) (o2.new s3 n)
theorem mm_op {op : Operator} {r : R2} {g : D → D → Option D} (o : OpP X (binaryOp op) r g) (ha : MV X a ta ma) (hb : MV X b tb mb) : MM X (.BinOp a op b pos) (tOp r ta tb) (m2 g ma mb) := ⟨pe_op o.op ha.pe hb.pe, so_m2 o.v ha.so hb.so⟩
theorem mm_cmp {op : CmpOp} {r : R2} {g : D → D → Option D} (o : OpP X (compareOp op) r g) (ha : MV X a ta ma) (hb : MV X b tb mb) (hm : behindInMarks op b = false := by first | exact nomark _ | rfl) : MM X (.Compare a [op] [b] pos) (tOp r ta tb) (m2 g ma mb) :=
  ⟨pe_cmpR o.op ha.pe hb.pe hm, so_m2 o.v ha.so hb.so⟩
def m1 (g : D → Option D) (f : FM) : FM := fun ε => (f ε).bind fun x => (g x.1).map fun z => (z, x.2)
theorem mm_un {op : UnaryOp} {r : V → Hp → VK → Prop} {g : D → Option D} (o : UnP X (unaryOp op) r g) (ha : MV X a ta ma) : MM X (.UnaryOp op a pos) (tUn r ta) (m1 g ma) := by
  refine ⟨pe_un o.op ha.pe, fun io B ps ε ε' σ H d Q ok q k => ?_⟩
  obtain ⟨⟨x, ε1⟩, q1, q⟩ := bindSome q
  obtain ⟨z, q3, q4⟩ := Option.map_eq_some_iff.mp q
  cases q4
  refine ha.so io B ps ε _ σ H x _ ok q1 fun v B1 H1 s1 o1 r1 => ?_
  exact o.v v x _ H1 Q (r1.mono (smOf o1.sm)) q3 fun w H3 s3 n => k w B1 H3 s1 (o1.new s3 n)
def maNil : En → Option (List D × En) := fun ε => some ([], ε)
def maCons (f : FM) (g : En → Option (List D × En)) : En → Option (List D × En) := fun ε => (f ε).bind fun x => (g x.2).bind fun xs => some (x.1 :: xs.1, xs.2)
theorem ma_nil : MA X [] tNil maNil := ⟨pa_nil, fun io B ps ε ε' σ H d Q o q k => by cases q; exact k [] B H (Same.refl B) o .nil⟩
theorem ma_cons (ha : MV X a ta ma) (hr : MA X es t ms) (hs : starEach (a :: es) X.env = (false, eval a X.env) :: starEach es X.env := by rfl) : MA X (a :: es) (tCons ta t) (maCons ma ms) := by
  refine ⟨pa_cons ha.pe hr.pa hs, fun io B ps ε ε' σ H d Q ok q k => ?_⟩
  obtain ⟨⟨x, ε1⟩, q1, q⟩ := bindSome q
  obtain ⟨⟨xs, ε2⟩, q2, q⟩ := bindSome q
  cases q
  refine ha.so io B ps ε ε1 σ H x _ ok q1 fun v B1 H1 s1 o1 r1 => ?_
  exact hr.so io B1 ps ε1 _ σ H1 xs _ o1 q2 fun vs B2 H2 s2 o2 r2 => k _ B2 H2 (s1.trans s2) o2 (.cons (r1.mono (smOf s2)) r2)
def mCall (g : List D → Option D) (fs : En → Option (List D × En)) : FM := fun ε => (fs ε).bind fun x => (g x.1).map fun z => (z, x.2)
theorem so_mcall {K : PySem.W.Frag} {r : List V → Hp → VK → Prop} {g : List D → Option D} (o : CallV K r g) (ha : MAo K t ms) : MMo K (tCB r t) (mCall g ms) := by
  intro io B ps ε ε' σ H d Q ok q k
  obtain ⟨⟨x, ε1⟩, q1, q⟩ := bindSome q
  obtain ⟨z, q3, q4⟩ := Option.map_eq_some_iff.mp q
  cases q4
  refine ha io B ps ε _ σ H x _ ok q1 fun vs B1 H1 s1 o1 r1 => ?_
  exact o vs x _ H1 Q (r1.mono (smOf o1.sm)) q3 fun w H3 s3 n => k w B1 H3 s1 (o1.new s3 n)
theorem mm_cb {id : String} {r : List V → Hp → VK → Prop} {g : List D → Option D} (o : CallP X (.builtin id) r g) (hm : X.mg x = none) (ha : MA X (e :: es) t ms) (hg : Gl X x := by rfl) (hv : bootBuiltins x = some (.builtin id) := by decide +kernel) (hn : x ≠ "__name__" := by decide) (hdb : (x == ("__debug__" : Str)) = false := by decide)
    (he : starEach (e :: es) X.env = (false, eval e X.env) :: starEach es X.env := by rfl) (hpl : (backTo pos (starEach es X.env)).any (·.1) = false := by rfl) : MM X (.Call (.Name x p) (e :: es) [] pos) (tCB r t) (mCall g ms) :=
  ⟨pe_callB o.op hg hm hv ha.pa hn hdb he hpl, so_mcall o.v ha.so⟩
theorem mm_ct {T : String} {r : List V → Hp → VK → Prop} {g : List D → Option D} (o : CallP X (.type T) r g) (hm : X.mg x = none) (ha : MA X (e :: es) t ms) (hg : Gl X x := by rfl) (hv : bootBuiltins x = some (.type T) := by decide +kernel) (hn : x ≠ "__name__" := by decide) (hdb : (x == ("__debug__" : Str)) = false := by decide)
    (he : starEach (e :: es) X.env = (false, eval e X.env) :: starEach es X.env := by rfl) (hpl : (backTo pos (starEach es X.env)).any (·.1) = false := by rfl) : MM X (.Call (.Name x p) (e :: es) [] pos) (tCB r t) (mCall g ms) :=
  ⟨pe_callTy o.op hg hm hv ha.pa hn hdb he hpl, so_mcall o.v ha.so⟩
/-! tests -/
theorem mt_pt {f : En → Option Bool} (h : PTt X a tA f) : MT X a tA (mT f) := by
  refine ⟨h.pt, fun io B ps ε ε' σ H b Q o q k => ?_⟩
  obtain ⟨z, q1, q2⟩ := Option.map_eq_some_iff.mp q
  cases q2
  exact h.so ε σ H b Q o.okR q1 fun H' s => k B H' (Same.refl B) (o.same s)
def mTst (f : FM) : En → Option (Bool × En) := fun ε => (f ε).bind fun x => (toB x.1).map fun z => (z, x.2)
theorem so_mB {K : PySem.W.Frag} (h : MMo K ta ma) : MTo K (tB ta) (mTst ma) := by
  intro io B ps ε ε' σ H b Q o q k
  obtain ⟨⟨x, ε1⟩, q1, q⟩ := bindSome q
  obtain ⟨z, q3, q4⟩ := Option.map_eq_some_iff.mp q
  cases q4
  have := toB_some q3
  have this : x = .bool b := this
  subst this
  refine h io B ps ε _ σ H _ _ o q1 fun v B1 H1 s1 o1 => ?_
  have r := o1.own.rep (List.mem_cons_self)
  cases r
  exact ⟨b, rfl, k B1 H1 s1 o1.drop⟩
theorem mt_val (ha : MM X a ta ma) (he : ∀ whole, isTrue a X.env whole = (do let v ← whole; standAt a.pos; holding [v] (truthy v)) := by intro _; rfl) : MT X a (tB ta) (mTst ma) := ⟨pt_val ha.pe he, so_mB ha.so⟩
theorem mt_cmp {op : CmpOp} {r : R2} {g : D → D → Option D} (o : OpP X (compareOp op) r g) (ha : MV X a ta ma) (hb : MV X b tb mb) (hm : behindInMarks op b = false := by first | exact nomark _ | rfl) : MT X (.Compare a [op] [b] pos) (tTest (tOp r ta tb)) (mTst (m2 g ma mb)) :=
  ⟨pt_cmpR o.op ha.pe hb.pe hm, so_mB (ta := tOp r ta tb) (so_m2 o.v ha.so hb.so)⟩
def mNot (f : En → Option (Bool × En)) : En → Option (Bool × En) := fun ε => (f ε).map fun x => (!x.1, x.2)
def mAnd (f g : En → Option (Bool × En)) : En → Option (Bool × En) := fun ε => (f ε).bind fun x => if x.1 then g x.2 else some (false, x.2)
def mOr (f g : En → Option (Bool × En)) : En → Option (Bool × En) := fun ε => (f ε).bind fun x => if x.1 then some (true, x.2) else g x.2
theorem mt_not (ha : MT X a tA ga) : MT X (.UnaryOp .Not a pos) (tNot tA) (mNot ga) := by
  refine ⟨pt_not ha.pt, fun io B ps ε ε' σ H b Q o q k => ?_⟩
  obtain ⟨⟨x, ε1⟩, q1, q2⟩ := Option.map_eq_some_iff.mp q
  cases q2
  exact ha.so io B ps ε _ σ H x _ o q1 fun B1 H1 s1 o1 => k B1 H1 s1 o1
theorem MW.mt {f : En → Option (Bool × En)} (h : MW X a tA f) : MT X a tA f := ⟨h.pw.pt, h.so⟩
theorem mw_and1 (ha : MT X a tA ga) : MW X (.BoolOp .And [a] pos) tA ga := ⟨pw_and1 ha.pt, ha.so⟩
theorem mw_or1 (ha : MT X a tA ga) : MW X (.BoolOp .Or [a] pos) tA ga := ⟨pw_or1 ha.pt, ha.so⟩
theorem mw_and (ha : MT X a tA ga) (hb : MW X (.BoolOp .And (b :: rest) pos) tB' gb) : MW X (.BoolOp .And (a :: b :: rest) pos) (tAnd tA tB') (mAnd ga gb) := by
  refine ⟨pw_and ha.pt hb.pw, fun io B ps ε ε' σ H c Q o q k => ?_⟩
  obtain ⟨⟨x, ε1⟩, q1, q2⟩ := bindSome q
  refine ha.so io B ps ε ε1 σ H x _ o q1 fun B1 H1 s1 o1 => ?_
  cases x with
  | true => exact hb.so io B1 ps ε1 ε' σ H1 c Q o1 q2 fun B2 H2 s2 o2 => k B2 H2 (s1.trans s2) o2
  | false =>
    cases q2
    exact k B1 H1 s1 o1
theorem mw_or (ha : MT X a tA ga) (hb : MW X (.BoolOp .Or (b :: rest) pos) tB' gb) : MW X (.BoolOp .Or (a :: b :: rest) pos) (tOr tA tB') (mOr ga gb) := by
  refine ⟨pw_or ha.pt hb.pw, fun io B ps ε ε' σ H c Q o q k => ?_⟩
  obtain ⟨⟨x, ε1⟩, q1, q2⟩ := bindSome q
  refine ha.so io B ps ε ε1 σ H x _ o q1 fun B1 H1 s1 o1 => ?_
  cases x with
  | false => exact hb.so io B1 ps ε1 ε' σ H1 c Q o1 q2 fun B2 H2 s2 o2 => k B2 H2 (s1.trans s2) o2
  | true =>
    cases q2
    exact k B1 H1 s1 o1
/-! as values -/
def mAndV (f g : FM) : FM := fun ε => (f ε).bind fun x => (toB x.1).bind fun c => if c then g x.2 else some (.bool false, x.2)
def mOrV (f g : FM) : FM := fun ε => (f ε).bind fun x => (toB x.1).bind fun c => if c then some (.bool true, x.2) else g x.2
def mIf (c : En → Option (Bool × En)) (f g : FM) : FM := fun ε => (c ε).bind fun x => if x.1 then f x.2 else g x.2
theorem mm_one {op : BoolOp} (ha : MM X a ta ma) : MM X (.BoolOp op [a] pos) ta ma := ⟨pe_one ha.pe, ha.so⟩
theorem mm_and (ha : MM X a ta ma) (hb : MM X (.BoolOp .And (b :: rest) pos) tb mb) : MM X (.BoolOp .And (a :: b :: rest) pos) (tAndV ta tb) (mAndV ma mb) := by
  refine ⟨pe_and ha.pe hb.pe, fun io B ps ε ε' σ H d Q o q k => ?_⟩
  obtain ⟨⟨x, ε1⟩, q1, q⟩ := bindSome q
  obtain ⟨c, q2, qq⟩ := bindSome q
  have this : x = .bool c := toB_some q2
  subst this
  refine ha.so io B ps ε ε1 σ H _ _ o q1 fun v B1 H1 s1 o1 => ?_
  have r := o1.own.rep (List.mem_cons_self)
  cases r
  refine ⟨c, rfl, ?_⟩
  cases c with
  | true => exact hb.so io B1 ps ε1 ε' σ H1 d Q o1.drop qq fun w B2 H2 s2 o2 => k w B2 H2 (s1.trans s2) o2
  | false =>
    cases qq
    exact k _ B1 H1 s1 (o1.drop.new (Same.refl H1) newBl)
theorem mm_or (ha : MM X a ta ma) (hb : MM X (.BoolOp .Or (b :: rest) pos) tb mb) : MM X (.BoolOp .Or (a :: b :: rest) pos) (tOrV ta tb) (mOrV ma mb) := by
  refine ⟨pe_or ha.pe hb.pe, fun io B ps ε ε' σ H d Q o q k => ?_⟩
  obtain ⟨⟨x, ε1⟩, q1, q⟩ := bindSome q
  obtain ⟨c, q2, qq⟩ := bindSome q
  have this : x = .bool c := toB_some q2
  subst this
  refine ha.so io B ps ε ε1 σ H _ _ o q1 fun v B1 H1 s1 o1 => ?_
  have r := o1.own.rep (List.mem_cons_self)
  cases r
  refine ⟨c, rfl, ?_⟩
  cases c with
  | false => exact hb.so io B1 ps ε1 ε' σ H1 d Q o1.drop qq fun w B2 H2 s2 o2 => k w B2 H2 (s1.trans s2) o2
  | true =>
    cases qq
    exact k _ B1 H1 s1 (o1.drop.new (Same.refl H1) newBl)
theorem mm_if (hc : MT X c tA ga) (ha : MM X a ta ma) (hb : MM X b tb mb) : MM X (.IfExp c a b pos) (tIf tA ta tb) (mIf ga ma mb) := by
  refine ⟨pe_ifExp hc.pt ha.pe hb.pe, fun io B ps ε ε' σ H d Q o q k => ?_⟩
  obtain ⟨⟨x, ε1⟩, q1, q2⟩ := bindSome q
  refine hc.so io B ps ε ε1 σ H x _ o q1 fun B1 H1 s1 o1 => ?_
  cases x with
  | true => exact ha.so io B1 ps ε1 ε' σ H1 d Q o1 q2 fun w B2 H2 s2 o2 => k w B2 H2 (s1.trans s2) o2
  | false => exact hb.so io B1 ps ε1 ε' σ H1 d Q o1 q2 fun w B2 H2 s2 o2 => k w B2 H2 (s1.trans s2) o2
/-! subscripts: a value without lists -/
def gFrz (g : D → D → Option D) : D → D → Option D := fun x y => (g x y).bind fun d => if frozen d then some d else none
theorem mm_ix {K : PySem.W.Frag} (ha : MV X a ta ma) (hb : MV X b tb mb) (hs : PlainIx b := by exact fun _ _ => rfl) (hK : X.K = K := by rfl) : MM X (.Subscript a b pos) (tOp (rIx K) ta tb) (m2 (gFrz gIx) ma mb) := by
  subst hK
  refine ⟨pe_ix ix_seq ha.pe hb.pe hs, fun io B ps ε ε' σ H d Q o q k => ?_⟩
  obtain ⟨⟨x, ε1⟩, q1, q⟩ := bindSome q
  obtain ⟨⟨y, ε2⟩, q2, q⟩ := bindSome q
  obtain ⟨z, q3, q4⟩ := Option.map_eq_some_iff.mp q
  cases q4
  obtain ⟨d', q5, q6⟩ := bindSome q3
  split at q6
  · rename_i hf
    cases q6
    refine ha.so io B ps ε ε1 σ H x _ o q1 fun v B1 H1 s1 o1 r1 => ?_
    refine hb.so io B1 ps ε1 _ σ H1 y _ o1 q2 fun u B2 H2 s2 o2 r2 => ?_
    have r1 := (r1.mono (smOf s2)).mono (smOf o2.sm)
    have fin : ∀ w, Rep X.K H2 w d → Q w H2 := fun w rw' => k w B2 H2 (s1.trans s2) (o2.new (Same.refl H2) (New.frz rw' hf))
    have q5 : gIx x y = some d := q5
    unfold gIx at q5
    split at q5
    · cases r2
      cases r1 with
      | lst h r =>
        obtain ⟨w, hw, rw'⟩ := atRep r q5
        exact .inl ⟨_, _, _, w, rfl, rfl, SqL.of h, hw, fin w rw'⟩
    · cases r2
      cases r1 with
      | tup h r =>
        obtain ⟨w, hw, rw'⟩ := atRep r q5
        exact .inr (.inl ⟨_, _, _, w, rfl, rfl, h, hw, fin w rw'⟩)
    · cases r2
      cases r1
      split at q5
      · rename_i hl
        obtain ⟨c, hc, rfl⟩ := Option.map_eq_some_iff.mp q5
        exact .inr (.inr ⟨_, _, c, rfl, rfl, cap_le hl, hc, fin _ (.str _)⟩)
      · cases q5
    · cases q5
  · cases q6
end
end Pd

set_option Elab.async false
set_option linter.all false
set_option maxRecDepth 100000
set_option maxHeartbeats 4000000
/-! Pd8: statements, calls of defs, bodies. -/
namespace Pd
open PySem PySem.Spec PyProof.Rows L2

def onSome {α : Type} (o : Option α) (P : α → Prop) : Prop := match o with
  | some a => P a
  | none => False
theorem onSome_some {α : Type} {a : α} {P : α → Prop} : onSome (some a) P = P a := rfl
theorem onSome_none {α : Type} {P : α → Prop} : onSome none P = False := rfl
theorem onSome_of {α : Type} {o : Option α} {P : α → Prop} (h : onSome o P) : ∃ a, o = some a ∧ P a := by
  cases o with
  | none => exact h.elim
  | some a => exact ⟨a, rfl, h⟩

/-! ### what is wanted behind a statement -/
structure SE where
  nx : En → Prop
  rt : D → En → Prop
  bk : En → Prop
  ct : En → Prop
abbrev FS := SE → En → Prop
structure RelE (K : PySem.W.Frag) (io : Option (Nat × V)) (B : Hp) (S : SE) (D' : Ends) : Prop where
  nx : ∀ (B' : Hp) (ε : En) (σ : L2.St) (H : Hp), Same B B' → Ok K io B' [] ε σ H → S.nx ε → D'.nx σ H
  rt : ∀ (B' : Hp) (v : V) (d : D) (ε : En) (σ : L2.St) (H : Hp), Same B B' → Ok K io B' [(v, d)] ε σ H → S.rt d ε → D'.rt v H
  bk : ∀ (B' : Hp) (ε : En) (σ : L2.St) (H : Hp), Same B B' → Ok K io B' [] ε σ H → S.bk ε → D'.bk σ H
  ct : ∀ (B' : Hp) (ε : En) (σ : L2.St) (H : Hp), Same B B' → Ok K io B' [] ε σ H → S.ct ε → D'.ct σ H
theorem RelE.mono {K : PySem.W.Frag} {io : Option (Nat × V)} {B B' : Hp} {S : SE} {D' : Ends} (r : RelE K io B S D') (e : Same B B') : RelE K io B' S D' :=
  ⟨fun B2 ε σ H s => r.nx B2 ε σ H (e.trans s), fun B2 v d ε σ H s => r.rt B2 v d ε σ H (e.trans s), fun B2 ε σ H s => r.bk B2 ε σ H (e.trans s), fun B2 ε σ H s => r.ct B2 ε σ H (e.trans s)⟩
def SSo (K : PySem.W.Frag) (t : TS) (s : FS) : Prop := ∀ (io : Option (Nat × V)) (B : Hp) (ε : En) (σ : L2.St) (H : Hp) (S : SE) (D' : Ends), Ok K io B [] ε σ H → RelE K io B S D' → s S ε → t D' σ H
structure SS (X : Cx) (st : Stmt) (t : TS) (s : FS) : Prop where
  ps : PS X st t
  so : SSo X.K t s
structure SSs (X : Cx) (st : List Stmt) (t : TS) (s : FS) : Prop where
  ps : PSs X st t
  so : SSo X.K t s
section
variable {X : Cx} {st : Stmt} {rest : List Stmt} {t u : TS} {s r : FS} {e : Expr} {te : TE} {m : FM} {pos pos' : Pos}
def sNext : FS := fun S ε => S.nx ε
def sSeq (s r : FS) : FS := fun S ε => s { S with nx := r S } ε
theorem ss_nil : SSs X [] tNext sNext := ⟨pss_nil, fun io B ε σ H S D' o re h => re.nx B ε σ H (Same.refl B) o h⟩
theorem ss_cons (h1 : SS X st t s) (h2 : SSs X rest u r) : SSs X (st :: rest) (tSeq t u) (sSeq s r) := by
  refine ⟨pss_cons h1.ps h2.ps, fun io B ε σ H S D' o re h => ?_⟩
  exact h1.so io B ε σ H { S with nx := r S } { D' with nx := u D' } o ⟨fun B' ε' σ' H' sm o' q => h2.so io B' ε' σ' H' S D' o' (re.mono sm) q, re.rt, re.bk, re.ct⟩ h
theorem ss_one (h1 : SS X st t s) : SSs X [st] t s := ⟨pss_one h1.ps, h1.so⟩
theorem ss_pass : SS X (.Pass pos) tNext sNext := ⟨ps_pass, fun io B ε σ H S D' o re h => re.nx B ε σ H (Same.refl B) o h⟩
def sBreak : FS := fun S ε => S.bk ε
def sCont : FS := fun S ε => S.ct ε
def sNever : FS := fun _ _ => False
theorem ss_break : SS X (.Break pos) tBreak sBreak := ⟨ps_break, fun io B ε σ H S D' o re h => re.bk B ε σ H (Same.refl B) o h⟩
theorem ss_continue : SS X (.Continue pos) tCont sCont := ⟨ps_continue, fun io B ε σ H S D' o re h => re.ct B ε σ H (Same.refl B) o h⟩
theorem ss_never : SS X st tNever sNever := ⟨ps_never, fun io B ε σ H S D' o re h => h⟩
theorem ss_doc {x j} : SS X (.Expr (.Constant (.str x) j pos) pos') tNext sNext := ⟨ps_doc, fun io B ε σ H S D' o re h => re.nx B ε σ H (Same.refl B) o h⟩
def sExpr (m : FM) : FS := fun S ε => onSome (m ε) fun x => S.nx x.2
theorem ss_expr (he : MM X e te m) (hs : swapsWith e none pos.line X.env = pure false := by rfl) : SS X (.Expr e pos) (tDrop te) (sExpr m) := by
  refine ⟨ps_expr he.pe hs, fun io B ε σ H S D' o re h => ?_⟩
  obtain ⟨⟨d, ε1⟩, q, h⟩ := onSome_of h
  exact he.so io B [] ε ε1 σ H d _ o q fun v B1 H1 s1 o1 => re.nx B1 ε1 σ H1 s1 o1.drop h
def sRet (m : FM) : FS := fun S ε => onSome (m ε) fun x => S.rt x.1 x.2
theorem ss_ret (he : MM X e te m) : SS X (.Return (some e) pos) (tRet te) (sRet m) := by
  refine ⟨ps_ret he.pe, fun io B ε σ H S D' o re h => ?_⟩
  obtain ⟨⟨d, ε1⟩, q, h⟩ := onSome_of h
  exact he.so io B [] ε ε1 σ H d _ o q fun v B1 H1 s1 o1 => re.rt B1 v d ε1 σ H1 s1 o1 h
def sRetN : FS := fun S ε => S.rt .none ε
theorem ss_retN : SS X (.Return none pos) tRetN sRetN := ⟨ps_retN, fun io B ε σ H S D' o re h => re.rt B .non .none ε σ H (Same.refl B) (o.new (Same.refl H) newNon) h⟩
def sIf (c : En → Option (Bool × En)) (a b : FS) : FS := fun S ε => onSome (c ε) fun x => if x.1 then a S x.2 else b S x.2
theorem ss_if {c : Expr} {a b : List Stmt} {tc : TT} {mc : En → Option (Bool × En)} (hc : MT X c tc mc) (ha : SSs X a t s) (hb : SSs X b u r) : SS X (.If c a b pos) (tIfS tc t u) (sIf mc s r) := by
  refine ⟨ps_if hc.pt ha.ps hb.ps, fun io B ε σ H S D' o re h => ?_⟩
  obtain ⟨⟨c, ε1⟩, q, h⟩ := onSome_of h
  refine hc.so io B [] ε ε1 σ H c _ o q fun B1 H1 s1 o1 => ?_
  cases c with
  | true => exact ha.so io B1 ε1 σ H1 S D' o1 (re.mono s1) h
  | false => exact hb.so io B1 ε1 σ H1 S D' o1 (re.mono s1) h
def sSet (i : Nat) (m : FM) : FS := fun S ε => onSome (m ε) fun x => notIo x.2[i]? = true ∧ S.nx (x.2.set i (.ow x.1))
theorem so_set {K : PySem.W.Frag} {i : Nat} (he : MMo K te m) : SSo K (tAsg te (gName i)) (sSet i m) := by
  intro io B ε σ H S D' o re h
  obtain ⟨⟨d, ε1⟩, q, hn, h⟩ := onSome_of h
  exact he io B [] ε ε1 σ H d _ o q fun v B1 H1 s1 o1 => re.nx B1 _ _ H1 s1 (o1.put hn) h
theorem ss_set {i : Nat} {x : Str} (hN : X.N.Nodup) (he : MM X e te m) (hi : X.N[i]? = some x := by rfl) (hx : Loc X.env.scope x := by first | exact Or.inl rfl | exact Or.inr rfl) (hs : swapsWith e (some (.Name x pos')) pos.line X.env = pure false := by rfl) (hf : X.fn x = true ∨ X.env.scope.names.lookup x = some .local := by first | exact .inl rfl | exact .inr rfl | assumption) :
    SS X (.Assign [.Name x pos'] e pos) (tAsg te (gName i)) (sSet i m) := ⟨ps_set hN hi hx he.pe hs hf, so_set he.so⟩
/-! y = [..] on one line, y a local -/
theorem ss_setLc {i : Nat} {y : Str} {py spos : Pos} {elt tg iter : Expr} {ifs : List Expr} {scope : Scope} {own : List (Str × Nat)} {wi : TI} {g : TG} {tt : TT} {tee : TE} {it : En → Option (List D)} {b : Bd} {ft : En → Option Bool} {fe : FE} (hN : X.N.Nodup) (hi : PIt X tg iter wi it) (ok : BlkOk X.N X.env.scope scope own)
    (hg : ∀ (s : Shared) (H : Hp) (C : Addr) (cl : List (Str × Addr)) (fp : List Addr), PGt (X.blk s H scope (compEnvC scope cl C X.env) fp) tg g (own.map (·.2)) b)
    (ht : ∀ (s : Shared) (H : Hp) (C : Addr) (cl : List (Str × Addr)) (fp : List Addr), PTs' (X.blk s H scope (compEnvC scope cl C X.env) fp) ifs tt ft)
    (he : ∀ (s : Shared) (H : Hp) (C : Addr) (cl : List (Str × Addr)) (fp : List Addr), PF (X.blk s H scope (compEnvC scope cl C X.env) fp) elt tee fe)
    (hsw : swapsWith (.ListComp elt [⟨tg, iter, ifs, 0⟩] scope pos) (some (.Name y py)) spos.line X.env = pure true) (hy : X.N[i]? = some y := by rfl) (hyl : X.env.scope.names.lookup y = some .local := by rfl) (hc : X.calm = true := by rfl) (hs : ∀ x, foldedSetIterable iter X.env x = pure x := by intro _; rfl) :
    SS X (.Assign [.Name y py] (.ListComp elt [⟨tg, iter, ifs, 0⟩] scope pos) spos) (tAsg (tLc wi g tt tee (own.map (·.2))) (gName i)) (sSet i (mP (eLc (own.map (·.2)) it b ft fe))) := by
  refine ⟨ps_setLc hc hN hy hyl hsw hi.pi ok (fun s H C cl fp => (hg s H C cl fp).pg) (fun s H C cl fp => (ht s H C cl fp).pt) (fun s H C cl fp => (he s H C cl fp).pe) hs, so_set ?_⟩
  have q := so_lc hi.so (hg {} (fun _ => none) (0 : Nat) [] []).so (ht {} (fun _ => none) (0 : Nat) [] []).so (he {} (fun _ => none) (0 : Nat) [] []).so
  intro io B ps ε ε' σ H d Q o h k
  obtain ⟨z, q1, q2⟩ := Option.map_eq_some_iff.mp h
  cases q2
  exact q ε σ H d Q o.okR q1 fun v H' s n => k v B H' (Same.refl B) (o.new s n)

/-! a, b = e1, e2 with plain local names -/
def sPar (i j : Nat) (f g : FM) : FS := fun S ε => onSome (f ε) fun x => onSome (g x.2) fun y => notIo y.2[j]? = true ∧ notIo (y.2.set j (.ow y.1))[i]? = true ∧ S.nx ((y.2.set j (.ow y.1)).set i (.ow x.1))
theorem ss_par {i j : Nat} {x y : Str} {a b : Expr} {ta tb : TE} {ma mb : FM} {px py pt : Pos} {kt k2 pt2} (hN : X.N.Nodup) (ha : MM X a ta ma) (hb : MM X b tb mb) (hij : i ≠ j := by decide) (hi : X.N[i]? = some x := by rfl) (hj : X.N[j]? = some y := by rfl) (hc : X.calm = true := by rfl)
    (hx : X.env.scope.names.lookup x = some .local := by rfl) (hy : X.env.scope.names.lookup y = some .local := by rfl) (hs1 : starEach [a, b] X.env = (false, eval a X.env) :: starEach [b] X.env := by rfl) (hs2 : starEach [b] X.env = (false, eval b X.env) :: starEach [] X.env := by rfl)
    (hw : swappedStores [.Tuple [.Name x px, .Name y py] kt pt] (.Tuple [a, b] k2 pt2) X.env = pure (some [x, y]) := by rfl)
    (hs : swapsWithSole [.Tuple [.Name x px, .Name y py] kt pt] (.Tuple [a, b] k2 pt2) pos.line X.env = pure false := by rfl) :
    SS X (.Assign [.Tuple [.Name x px, .Name y py] kt pt] (.Tuple [a, b] k2 pt2) pos) (tPar i j (tCons ta (tCons tb tNil))) (sPar i j ma mb) := by
  refine ⟨ps_par hc hN hi hj hij hx hy (pa_cons ha.pe (pa_cons hb.pe pa_nil hs2) hs1) hw hs, fun io B ε σ H S D' o re h => ?_⟩
  obtain ⟨⟨d, ε1⟩, q, h⟩ := onSome_of h
  obtain ⟨⟨d2, ε2⟩, q2, n1, n2, h⟩ := onSome_of h
  refine ha.so io B [] ε ε1 σ H d _ o q fun v B1 H1 s1 o1 => ?_
  refine hb.so io B1 _ ε1 ε2 σ H1 d2 _ o1 q2 fun w B2 H2 s2 o2 => ?_
  refine ⟨v, w, rfl, ?_⟩
  rw [List.set_comm _ _ hij]
  exact re.nx B2 _ _ H2 (s1.trans s2) ((o2.put n1).put n2) h

/-! targets that are owned; targets of the base -/
def MGo (K : PySem.W.Frag) (g : TG) (b : Bd) : Prop := ∀ (io : Option (Nat × V)) (B : Hp) (ps : List (V × D)) (ε ε' : En) (σ : L2.St) (H : Hp) (v : V) (d : D) (Q : L2.St → Hp → Prop), Ok K io B ((v, d) :: ps) ε σ H → b d ε = some ε' → (∀ σ' H', Ok K io B ps ε' σ' H' → Q σ' H') → g v σ H Q
structure MG (X : Cx) (tg : Expr) (g : TG) (b : Bd) : Prop where
  pg : PG X tg g
  so : MGo X.K g b
def mbName (i : Nat) : Bd := fun d ε => if notIo ε[i]? then some (ε.set i (.ow d)) else none
theorem mg_name (i : Nat) {x : Str} (hN : X.N.Nodup) (hi : X.N[i]? = some x := by rfl) (hx : Loc X.env.scope x := by first | exact Or.inl rfl | exact Or.inr rfl) (hf : X.fn x = true ∨ X.env.scope.names.lookup x = some .local := by first | exact .inl rfl | exact .inr rfl | assumption) :
    MG X (.Name x pos) (gName i) (mbName i) := by
  refine ⟨pg_name hN hi hx hf, fun io B ps ε ε' σ H v d Q o q k => ?_⟩
  unfold mbName at q
  split at q
  · rename_i hn
    cases q
    exact k _ _ (o.put hn)
  · cases q
def MGso (K : PySem.W.Frag) (g : TGs) (b : Bds) : Prop := ∀ (io : Option (Nat × V)) (B : Hp) (ps : List (V × D)) (ε ε' : En) (σ : L2.St) (H : Hp) (vs : List V) (ds : List D) (Q : L2.St → Hp → Prop), vs.length = ds.length → Ok K io B (vs.zip ds ++ ps) ε σ H → b ds ε = some ε' → (∀ σ' H', Ok K io B ps ε' σ' H' → Q σ' H') → g vs σ H Q
structure MGs (X : Cx) (ts : List Expr) (g : TGs) (b : Bds) : Prop where
  pg : PGs X ts g
  so : MGso X.K g b
theorem mgs_nil : MGs X [] gNil bNil := by
  refine ⟨pgs_nil, fun io B ps ε ε' σ H vs ds Q hl o q k => ?_⟩
  cases ds with
  | nil =>
    cases q
    have : vs = [] := List.eq_nil_of_length_eq_zero (by simpa using hl)
    subst this
    exact ⟨rfl, k σ H o⟩
  | cons _ _ => cases q
theorem mgs_cons {tg : Expr} {ts : List Expr} {g : TG} {gs : TGs} {b : Bd} {bs : Bds} (h1 : MG X tg g b) (h2 : MGs X ts gs bs) (hs : (assignEach (tg :: ts) X.env).map (·.2) = assign tg X.env :: (assignEach ts X.env).map (·.2) := by rfl) : MGs X (tg :: ts) (gCons g gs) (bCons b bs) := by
  refine ⟨pgs_cons h1.pg h2.pg hs, fun io B ps ε ε' σ H vs ds Q hl o q k => ?_⟩
  cases ds with
  | nil => cases q
  | cons d ds =>
    cases vs with
    | nil => simp at hl
    | cons v vs =>
      obtain ⟨ε1, q1, q⟩ := bindSome q
      exact ⟨v, vs, rfl, h1.so io B _ ε ε1 σ H v d _ o q1 fun σ1 H1 o1 => h2.so io B ps ε1 ε' σ1 H1 vs ds Q (by simpa using hl) o1 q k⟩
theorem RpL.toP {K : PySem.W.Frag} {H : Hp} : ∀ {vs : List V} {ds : List D} {fp : List Addr}, RpL K H vs ds fp → RpP K H (vs.zip ds) fp
  | _, _, _, .nil => .nil
  | _, _, _, .cons r t => .cons r t.toP
theorem RpP.append {K : PySem.W.Frag} {H : Hp} {L L' : List (V × D)} {f g : List Addr} (a : RpP K H L f) (b : RpP K H L' g) : RpP K H (L ++ L') (f ++ g) := by
  induction a with
  | nil => exact b
  | cons r t ih => rw [List.append_assoc]; exact .cons r ih
theorem Owns.open_ {K : PySem.W.Frag} {H B : Hp} {L : List (V × D)} {v : V} {ds : List D} (o : Owns K H B ((v, .tuple ds) :: L)) : ∃ a xs, v = .ref a ∧ SqT K H a xs ∧ xs.length = ds.length ∧ Owns K H B (xs.zip ds ++ L) := by
  obtain ⟨fp, r, nd, f⟩ := o
  cases r with
  | cons r t =>
    cases r with
    | tup h1 r => exact ⟨_, _, rfl, h1, r.length, _, r.toP.append t, nd, f⟩
theorem Ok.open_ {K : PySem.W.Frag} {io : Option (Nat × V)} {B H : Hp} {ps : List (V × D)} {ε : En} {σ : L2.St} {v : V} {ds : List D} (o : Ok K io B ((v, .tuple ds) :: ps) ε σ H) : ∃ a xs, v = .ref a ∧ SqT K H a xs ∧ xs.length = ds.length ∧ Ok K io B (xs.zip ds ++ ps) ε σ H := by
  obtain ⟨a, xs, h1, h2, h3, h4⟩ := Owns.open_ o.own
  exact ⟨a, xs, h1, h2, h3, o.len, o.sm, by rw [List.append_assoc]; exact h4, o.has, o.bo, o.io1, o.io2⟩
theorem mg_tup {K : PySem.W.Frag} {es : List Expr} {k : Nat} {g : TGs} {n : Nat} {bs : Bds} (h : MGs X es g bs) (hl : ∀ (ds : List D) (ε ε' : En), bs ds ε = some ε' → ds.length = n) (hc : X.calm = true := by rfl)
    (hn : (assignEach es X.env).length = n := by rfl) (hst : (assignEach es X.env).findIdx? (·.1) = none := by rfl) (hK : X.K = K := by rfl) : MG X (.Tuple es k pos) (gTup K n g) (bTup bs) := by
  subst hK
  refine ⟨pg_tup hc h.pg hn hst, fun io B ps ε ε' σ H v d Q o q k => ?_⟩
  cases d with
  | tuple ds =>
    obtain ⟨a, xs, rfl, h2, h3, o'⟩ := o.open_
    exact ⟨a, xs, rfl, h2, by rw [h3]; exact hl _ _ _ q, h.so io B ps ε ε' σ H xs ds Q h3 o' q k⟩
  | _ => cases q
def sAsg (b : Bd) (m : FM) : FS := fun S ε => onSome (m ε) fun x => onSome (b x.1 x.2) fun ε' => S.nx ε'
theorem ss_asg {tg : Expr} {g : TG} {b : Bd} (he : MM X e te m) (hg : MG X tg g b) (hs : swapsWithSole [tg] e pos.line X.env = pure false := by rfl) (hw : swappedStores [tg] e X.env = pure none := by rfl)
    (h1 : (assignEach [tg] X.env).map (·.2) = [assign tg X.env] := by rfl) : SS X (.Assign [tg] e pos) (tAsg te g) (sAsg b m) := by
  refine ⟨ps_asg he.pe hg.pg hs hw h1, fun io B ε σ H S D' o re h => ?_⟩
  obtain ⟨⟨d, ε1⟩, q, h⟩ := onSome_of h
  obtain ⟨ε2, q2, h⟩ := onSome_of h
  exact he.so io B [] ε ε1 σ H d _ o q fun v B1 H1 s1 o1 => hg.so io B1 [] ε1 ε2 σ H1 v d _ o1 q2 fun σ' H2 o2 => re.nx B1 ε2 σ' H2 s1 o2 h
/-! name op= int -/
def gAddI : D → D → Option D := gI2 (fun _ _ => true) fun i j => i + j
structure IpP (X : Cx) (op : Operator) (r : TIp) (g : D → D → Option D) : Prop where
  ip : PIp X op r
  v : OpV X.K r g
theorem i_add : IpP X .Add (ipI fun i j => i + j) gAddI := ⟨ip_add, fun x y d e z H Q r1 r2 q k => by
  cases r1 with
  | int i =>
    cases r2 with
    | int j => cases q; exact ⟨i, j, rfl, rfl, k _ H (Same.refl H) newInt⟩
    | _ => cases q
  | _ => cases r2 <;> cases q⟩
theorem i_sub : IpP X .Sub (ipI fun i j => i - j) gSub := ⟨ip_sub, fun x y d e z H Q r1 r2 q k => by
  cases r1 with
  | int i =>
    cases r2 with
    | int j => cases q; exact ⟨i, j, rfl, rfl, k _ H (Same.refl H) newInt⟩
    | _ => cases q
  | _ => cases r2 <;> cases q⟩
def sAug (i : Nat) (g : D → D → Option D) (m : FM) : FS := fun S ε => onSome (get ε i) fun x => frozen x = true ∧ onSome (m ε) fun y => onSome (g x y.1) fun z => notIo y.2[i]? = true ∧ S.nx (y.2.set i (.ow z))
theorem ss_aug {i : Nat} {x : Str} {op : Operator} {r : TIp} {g : D → D → Option D} (hN : X.N.Nodup) (ho : IpP X op r g) (he : MV X e te m) (hi : X.N[i]? = some x := by rfl) (hx : Loc X.env.scope x := by first | exact Or.inl rfl | exact Or.inr rfl) (hf : X.fn x = true ∨ X.env.scope.names.lookup x = some .local := by first | exact .inl rfl | exact .inr rfl | assumption) :
    SS X (.AugAssign (.Name x pos') op e pos) (tAug i te r) (sAug i g m) := by
  refine ⟨ps_aug hN hi hx he.pe ho.ip hf, fun io B ε σ H S D' o re h => ?_⟩
  obtain ⟨x0, q0, hz, h⟩ := onSome_of h
  obtain ⟨⟨d, ε1⟩, q, h⟩ := onSome_of h
  obtain ⟨z, q2, hn, h⟩ := onSome_of h
  obtain ⟨v, hv, rv⟩ := o.okR.at_ i x0 q0
  obtain ⟨B0, s0, r0, o0⟩ := (show Ok X.K io B [(v, x0)] ε σ H from ⟨o.len, o.sm, o.own.frz rv hz, o.has, o.bo, o.io1, o.io2⟩).pin
  refine ⟨v, hv, he.so io B0 [] ε ε1 σ H d _ o0 q fun w B1 H1 s1 o1 r1 => ?_⟩
  exact ho.v v w x0 d z H1 _ ((r0.mono (smOf s1)).mono (smOf o1.sm)) (r1.mono (smOf o1.sm)) q2 fun u H2 s2 n => re.nx B1 _ _ H2 (s0.trans s1) ((o1.new s2 n).put hn) h

/-! ### while, for -/
def whM (c : En → Option (Bool × En)) (body : FS) : Nat → SE → En → Prop
  | 0, _, _ => False
  | n + 1, S, ε => onSome (c ε) fun x => if x.1 then body { S with nx := whM c body n S, ct := whM c body n S, bk := S.nx } x.2 else S.nx x.2
def sWhile (c : En → Option (Bool × En)) (body : FS) : FS := fun S ε => ∃ n, whM c body n S ε
theorem ss_while {c : Expr} {body : List Stmt} {tc : TT} {mc : En → Option (Bool × En)} (hc : MT X c tc mc) (hb : SSs X body t s) (hp : PassesOwn (model X.prog X.w) X.A X.env X.xe := by exact PassesOwn.never) : SS X (.While c body [] pos) (tWhile tc t) (sWhile mc s) := by
  refine ⟨ps_while hp hc.pt hb.ps, fun io B ε σ H S D' o re ⟨n0, h0⟩ => ?_⟩
  refine ⟨fun n σ' H' => ∃ B' ε', Same B B' ∧ Ok X.K io B' [] ε' σ' H' ∧ whM mc s n S ε', ⟨n0, B, ε, Same.refl B, o, h0⟩, ?_⟩
  rintro n σ1 H1 ⟨B1, ε1, s1, o1, h⟩
  cases n with
  | zero => exact h.elim
  | succ n =>
    obtain ⟨⟨b, ε2⟩, q, h⟩ := onSome_of h
    refine hc.so io B1 [] ε1 ε2 σ1 H1 b _ o1 q fun B2 H2 s2 o2 => ?_
    cases b with
    | true =>
      rw [if_pos rfl] at h ⊢
      refine ⟨fun σ' H' => ∃ B' ε', Same B B' ∧ Ok X.K io B' [] ε' σ' H' ∧ whM mc s n S ε', fun σ' H' w => ⟨n, Nat.lt_succ_self n, w⟩, ?_⟩
      have re2 := re.mono (s1.trans s2)
      exact hb.so io B2 ε2 σ1 H2 { S with nx := whM mc s n S, ct := whM mc s n S, bk := S.nx } _ o2 ⟨fun B' ε' σ' H' e o' q => ⟨B', ε', (s1.trans s2).trans e, o', q⟩, re2.rt, re2.nx, fun B' ε' σ' H' e o' q => ⟨B', ε', (s1.trans s2).trans e, o', q⟩⟩ h
    | false =>
      rw [if_neg Bool.false_ne_true] at h ⊢
      exact re.nx B2 ε2 σ1 H2 (s1.trans s2) o2 h

/-! what a for walks -/
def MIo (K : PySem.W.Frag) (wi : TI) (f : En → Option (List D × En)) : Prop := ∀ (io : Option (Nat × V)) (B : Hp) (ps : List (V × D)) (ε ε' : En) (σ : L2.St) (H : Hp) (ds : List D) (R : It → Hp → Prop), Ok K io B ps ε σ H → f ε = some (ds, ε') →
  (∀ J B' H', Same B B' → Ok K io B' ps ε' σ H' → WD K B' J ds → R J H') → wi σ H R
structure MI (X : Cx) (tg e : Expr) (wi : TI) (f : En → Option (List D × En)) : Prop where
  pi : PI X tg e wi
  so : MIo X.K wi f
def miOf (gi : List D → Option (List D)) (fs : En → Option (List D × En)) : En → Option (List D × En) := fun ε => (fs ε).bind fun x => (gi x.1).map fun y => (y, x.2)
theorem mi_of {tg e : Expr} {es : List Expr} {ri : List V → Hp → (It → Hp → Prop) → Prop} {gi : List D → Option (List D)} {t : TA} {fs : En → Option (List D × En)} (v : PItV X tg e es ri gi) (ha : MA X es t fs) : MI X tg e (fun σ H R => t σ H fun vs H1 => ri vs H1 R) (miOf gi fs) := by
  refine ⟨v.pi ha.pa, fun io B ps ε ε' σ H ds R o q k => ?_⟩
  obtain ⟨⟨xs, ε1⟩, q1, q⟩ := bindSome q
  obtain ⟨z, q2, q3⟩ := Option.map_eq_some_iff.mp q
  cases q3
  exact ha.so io B ps ε _ σ H xs _ o q1 fun vs B1 H1 s1 o1 r1 => v.v vs xs _ B1 H1 R r1 (smOf o1.sm) q2 fun J w => k J B1 H1 s1 o1 w
def miSelf (f : FM) : En → Option (List D × En) := fun ε => (f ε).bind fun x => (itemsS x.1).map fun y => (y, x.2)
theorem mi_self {K : PySem.W.Frag} {tg a : Expr} {ta : TE} {ma : FM} (ha : MV X a ta ma) (hK : X.K = K := by rfl) : MI X tg a (iAnyK K ta) (miSelf ma) := by
  subst hK
  refine ⟨pi_anyK ha.pe, fun io B ps ε ε' σ H ds R o q k => ?_⟩
  obtain ⟨⟨x, ε1⟩, q1, q⟩ := bindSome q
  obtain ⟨z, q2, q3⟩ := Option.map_eq_some_iff.mp q
  cases q3
  refine ha.so io B ps ε _ σ H x _ o q1 fun v B1 H1 s1 o1 r1 => ?_
  obtain ⟨kd, ys, rfl, h1, h2⟩ := kdOf r1 q2
  exact ⟨kd, ys, rfl, kd_mono (smOf o1.sm).rd h1, k _ B1 H1 s1 o1 (wd_any h1 h2)⟩
/-- targets: a thing of the base -/
def BGo (K : PySem.W.Frag) (g : TG) (b : Bd) : Prop := ∀ (io : Option (Nat × V)) (B : Hp) (ps : List (V × D)) (ε ε' : En) (σ : L2.St) (H : Hp) (v : V) (d : D) (Q : L2.St → Hp → Prop), Ok K io B ps ε σ H → Rep K B v d → b d ε = some ε' → (∀ σ', Ok K io B ps ε' σ' H → Q σ' H) → g v σ H Q
structure BG (X : Cx) (tg : Expr) (g : TG) (b : Bd) : Prop where
  pg : PG X tg g
  so : BGo X.K g b
def bbName (i : Nat) : Bd := fun d ε => if notIo ε[i]? then some (ε.set i (if frozen d then .ow d else .bo d)) else none
theorem bg_name (i : Nat) {x : Str} (hN : X.N.Nodup) (hi : X.N[i]? = some x := by rfl) (hx : Loc X.env.scope x := by first | exact Or.inl rfl | exact Or.inr rfl) (hf : X.fn x = true ∨ X.env.scope.names.lookup x = some .local := by first | exact .inl rfl | exact .inr rfl | assumption) :
    BG X (.Name x pos) (gName i) (bbName i) := by
  refine ⟨pg_name hN hi hx hf, fun io B ps ε ε' σ H v d Q o r q k => ?_⟩
  unfold bbName at q
  split at q
  · rename_i hn
    cases q
    split at k
    · rename_i hz
      have o' : Ok X.K io B ((v, d) :: ps) ε σ H := ⟨o.len, o.sm, o.own.frz (r.mono (smOf o.sm)) hz, o.has, o.bo, o.io1, o.io2⟩
      exact k _ (o'.put hn)
    · exact k _ (o.putB r hn)
  · cases q
def BGso (K : PySem.W.Frag) (g : TGs) (b : Bds) : Prop := ∀ (io : Option (Nat × V)) (B : Hp) (ps : List (V × D)) (ε ε' : En) (σ : L2.St) (H : Hp) (vs : List V) (ds : List D) (Q : L2.St → Hp → Prop), Ok K io B ps ε σ H → RepL K B vs ds → b ds ε = some ε' → (∀ σ', Ok K io B ps ε' σ' H → Q σ' H) → g vs σ H Q
structure BGs (X : Cx) (ts : List Expr) (g : TGs) (b : Bds) : Prop where
  pg : PGs X ts g
  so : BGso X.K g b
theorem bgs_nil : BGs X [] gNil bNil := by
  refine ⟨pgs_nil, fun io B ps ε ε' σ H vs ds Q o r q k => ?_⟩
  cases r with
  | nil => cases q; exact ⟨rfl, k σ o⟩
  | cons _ _ => cases q
theorem bgs_cons {tg : Expr} {ts : List Expr} {g : TG} {gs : TGs} {b : Bd} {bs : Bds} (h1 : BG X tg g b) (h2 : BGs X ts gs bs) (hs : (assignEach (tg :: ts) X.env).map (·.2) = assign tg X.env :: (assignEach ts X.env).map (·.2) := by rfl) : BGs X (tg :: ts) (gCons g gs) (bCons b bs) := by
  refine ⟨pgs_cons h1.pg h2.pg hs, fun io B ps ε ε' σ H vs ds Q o r q k => ?_⟩
  cases r with
  | nil => cases q
  | cons r rr =>
    obtain ⟨ε1, q1, q⟩ := bindSome q
    exact ⟨_, _, rfl, h1.so io B ps ε ε1 σ H _ _ _ o r q1 fun σ1 o1 => h2.so io B ps ε1 ε' σ1 H _ _ Q o1 rr q k⟩
theorem Rep.openT {K : PySem.W.Frag} {H : Hp} {v : V} {ds : List D} (r : Rep K H v (.tuple ds)) : ∃ a xs, v = .ref a ∧ SqT K H a xs ∧ RepL K H xs ds := by
  cases r with
  | tup h r => exact ⟨_, _, rfl, h, r⟩
theorem bg_tup {K : PySem.W.Frag} {es : List Expr} {k : Nat} {g : TGs} {n : Nat} {bs : Bds} (h : BGs X es g bs) (hl : ∀ (ds : List D) (ε ε' : En), bs ds ε = some ε' → ds.length = n) (hc : X.calm = true := by rfl)
    (hn : (assignEach es X.env).length = n := by rfl) (hst : (assignEach es X.env).findIdx? (·.1) = none := by rfl) (hK : X.K = K := by rfl) : BG X (.Tuple es k pos) (gTup K n g) (bTup bs) := by
  subst hK
  refine ⟨pg_tup hc h.pg hn hst, fun io B ps ε ε' σ H v d Q o r q k => ?_⟩
  cases d with
  | tuple ds =>
    obtain ⟨a, xs, rfl, h1, r⟩ := r.openT
    exact ⟨a, xs, rfl, (smOf o.sm).sqt h1, by rw [r.length]; exact hl _ _ _ q, h.so io B ps ε ε' σ H xs ds Q o r q k⟩
  | _ => cases q
def forM (b : Bd) (body : FS) : List D → SE → En → Prop
  | [], S, ε => S.nx ε
  | d :: ds, S, ε => onSome (b d ε) fun ε1 => body { S with nx := forM b body ds S, ct := forM b body ds S, bk := S.nx } ε1
def sFor (mi : En → Option (List D × En)) (b : Bd) (body : FS) : FS := fun S ε => onSome (mi ε) fun x => forM b body x.1 S x.2
theorem ss_for {tg iter : Expr} {body : List Stmt} {wi : TI} {mi : En → Option (List D × En)} {g : TG} {b : Bd} (hi : MI X tg iter wi mi) (hg : BG X tg g b) (hb : SSs X body t s) (hp : PassesOwn (model X.prog X.w) X.A X.env X.xe := by exact PassesOwn.never) (hc : X.calm = true := by rfl)
    (hs : ∀ x, foldedSetIterable iter X.env x = pure x := by intro _; rfl) : SS X (.For tg iter body [] pos) (tFor wi g t) (sFor mi b s) := by
  refine ⟨ps_for hp hc hi.pi hg.pg hb.ps hs, fun io B ε σ H S D' o re h => ?_⟩
  obtain ⟨⟨ds, ε1⟩, q, h⟩ := onSome_of h
  refine hi.so io B [] ε ε1 σ H ds _ o q fun J B1 H1 s1 o1 ⟨G, Y, w, hG, hY⟩ => ?_
  refine for_it w (fun i σ' H' => ∃ B' ε', Same B1 B' ∧ Ok X.K io B' [] ε' σ' H' ∧ forM b s (ds.drop i) S ε') ⟨B1, ε1, Same.refl B1, o1, by simpa using h⟩ (fun i σ' H' _ ⟨B', ε', e, o', _⟩ => hG H' (smOf (e.trans o'.sm))) ?_ ?_
  · rintro i x σ2 H2 H3 hi' ⟨B2, ε2, e2, o2, h2⟩ y
    obtain ⟨s3, d, hd, rd⟩ := hY i H2 x H3 (smOf (e2.trans o2.sm)) y
    have hdrop : ds.drop i = d :: ds.drop (i + 1) := by
      rw [List.drop_eq_getElem_cons hi']
      rw [List.getElem?_eq_getElem hi'] at hd
      cases hd; rfl
    rw [hdrop] at h2
    obtain ⟨ε3, q3, h2⟩ := onSome_of h2
    have o3 := (o2.same s3).tups
    have sB : Same (tov B1 H3) (tov B2 H3) := fun a ob hb => by
      unfold tov at hb ⊢
      cases z : B1 a with
      | some ob' => rw [z] at hb; cases hb; rw [e2 a ob z]
      | none =>
        rw [z] at hb
        simp only at hb
        split at hb
        · rename_i ht
          cases z2 : B2 a with
          | none => simp only; rw [if_pos ht]; exact hb
          | some o5 =>
            simp only
            have := (o2.same s3).sm a o5 z2
            rw [this] at hb
            exact hb
        · cases hb
    refine hg.so io _ [] ε2 ε3 σ2 H3 x d _ o3 (rd.mono (smOf sB)) q3 fun σ4 o4 => ?_
    have sB2 : Same B2 (tov B2 H3) := tov_ge
    have sAll : Same B (tov B2 H3) := (s1.trans e2).trans sB2
    have re2 := re.mono sAll
    exact hb.so io _ ε3 σ4 H3 { S with nx := forM b s (ds.drop (i+1)) S, ct := forM b s (ds.drop (i+1)) S, bk := S.nx } _ o4 ⟨fun B' ε' σ' H' e o' q => ⟨B', ε', (e2.trans sB2).trans e, o', q⟩, re2.rt, re2.nx, fun B' ε' σ' H' e o' q => ⟨B', ε', (e2.trans sB2).trans e, o', q⟩⟩ h2
  · rintro σ2 H2 ⟨B2, ε2, e2, o2, h2⟩
    rw [List.drop_length] at h2
    exact re.nx B2 ε2 σ2 H2 (s1.trans e2) o2 h2
end

/-! ### defs: what they promise -/
/-- changes nothing: n arguments, the value g of them -/
def spP (K : PySem.W.Frag) (n : Nat) (g : List D → Option D) : Sp := fun vs H Q _ => ∃ ds d, RepL K H vs ds ∧ ds.length = n ∧ g ds = some d ∧ ∀ v H', Same H H' → New K H H' v d → Q v H'
/-- changes its argument at k: the value and the argument's new content -/
def spI (K : PySem.W.Frag) (n k : Nat) (g : List D → Option (D × D)) : Sp := fun vs H Q _ => ∃ (pre post : List V) (dpre dpost : List D) (v : V) (d r d' : D) (fp : List Addr) (Hm : Hp), vs = pre ++ v :: post ∧ pre.length = k ∧ pre.length + 1 + post.length = n ∧ Rp K H v d fp ∧ fp.Nodup ∧
  Hm = (fun b => if b ∈ fp then none else H b) ∧ RepL K Hm pre dpre ∧ RepL K Hm post dpost ∧ g (dpre ++ d :: dpost) = some (r, d') ∧ ∀ u H', Same Hm H' → Owns K H' Hm [(u, r), (v, d')] → Q u H'
structure FnD (P : Program) (w : World) (K : PySem.W.Frag) (mg : Str → Option Value) (base : Heap) (x : Str) (lvl : Nat) (sp : Sp) : Prop where
  ex : ∃ fa : Addr, FnR P w K mg base CX0 lvl fa sp ∧ mg x = some (.ref fa) ∧ PySem.W.keepIn K (.ref fa) = true
def tCR (sp : Sp) (t : TA) : TE := fun σ H Q => t σ H fun vs H1 => sp vs H1 Q E0
/-- a def that is known by its bare promise, called -/
theorem pe_callR {X : Cx} {x : Str} {p pos : Pos} {e : Expr} {es : List Expr} {t : TA} {lvl : Nat} {fa : Addr} {sp : Sp} (F : FnR X.prog X.w X.K X.mg X.base CX0 lvl fa sp) (hr : Room lvl X.A) (hg : Gl X x) (hm : X.mg x = some (.ref fa)) (hk : PySem.W.keepIn X.K (.ref fa) = true)
    (ha : PA X (e :: es) t) (hdb : (x == ("__debug__" : Str)) = false) (he : starEach (e :: es) X.env = (false, eval e X.env) :: starEach es X.env) (hpl : (backTo pos (starEach es X.env)).any (·.1) = false) : PE X (.Call (.Name x p) (e :: es) [] pos) (tCR sp t) := by
  constructor
  intro pins s σ H Q I h
  apply wpAny_Call_Name_kw
  apply ld_glob I hg hm _ hdb
  apply PySem.W.callWith_K (h₀ := X.base) I.ok.mod.kin hk _ he hpl
  apply thn (ha.run pos pins s σ H _ I h)
  intro us s1 hh
  obtain ⟨vs, H1, I1, r, q⟩ := hh
  exact ⟨I1.kIn, wpAny_call (run_fnR F hr pass0 I1 r q)⟩
def eFn (n : Nat) (g : List D → Option D) (fs : En → Option (List D)) : FE := fun ε => (fs ε).bind fun ds => if ds.length = n then g ds else none
def mFn (n : Nat) (g : List D → Option D) (fs : En → Option (List D × En)) : FM := fun ε => (fs ε).bind fun x => if x.1.length = n then (g x.1).map fun z => (z, x.2) else none
section
variable {X : Cx} {x : Str} {p pos : Pos} {e : Expr} {es : List Expr} {t : TA} {fs : En → Option (List D)} {ms : En → Option (List D × En)} {n lvl : Nat} {g : List D → Option D}
theorem pf_fn {K : PySem.W.Frag} (F : FnD X.prog X.w X.K X.mg X.base x lvl (spP K n g)) (hr : Room lvl X.A) (ha : PAr X (e :: es) t fs) (hK : X.K = K := by rfl) (hg : Gl X x := by rfl) (hdb : (x == ("__debug__" : Str)) = false := by decide)
    (he : starEach (e :: es) X.env = (false, eval e X.env) :: starEach es X.env := by rfl) (hpl : (backTo pos (starEach es X.env)).any (·.1) = false := by rfl) : PF X (.Call (.Name x p) (e :: es) [] pos) (tCR (spP K n g) t) (eFn n g fs) := by
  subst hK
  obtain ⟨fa, hF, hm, hk⟩ := F.ex
  refine ⟨pe_callR hF hr hg hm hk ha.pa hdb he hpl, fun ε σ H d Q o q k => ?_⟩
  obtain ⟨ds, q1, q2⟩ := bindSome q
  split at q2
  · rename_i hn
    refine ha.so ε σ H ds _ o q1 fun vs H1 s1 r1 => ?_
    exact ⟨ds, d, r1, hn, q2, fun v H' s nw => k v H' (s1.trans s) (nw.back s1)⟩
  · cases q2
theorem mm_fn {K : PySem.W.Frag} (F : FnD X.prog X.w X.K X.mg X.base x lvl (spP K n g)) (hr : Room lvl X.A) (ha : MA X (e :: es) t ms) (hK : X.K = K := by rfl) (hg : Gl X x := by rfl) (hdb : (x == ("__debug__" : Str)) = false := by decide)
    (he : starEach (e :: es) X.env = (false, eval e X.env) :: starEach es X.env := by rfl) (hpl : (backTo pos (starEach es X.env)).any (·.1) = false := by rfl) : MM X (.Call (.Name x p) (e :: es) [] pos) (tCR (spP K n g) t) (mFn n g ms) := by
  subst hK
  obtain ⟨fa, hF, hm, hk⟩ := F.ex
  refine ⟨pe_callR hF hr hg hm hk ha.pa hdb he hpl, fun io B ps ε ε' σ H d Q o q k => ?_⟩
  obtain ⟨⟨ds, ε1⟩, q1, q2⟩ := bindSome q
  split at q2
  · rename_i hn
    obtain ⟨z, q3, q4⟩ := Option.map_eq_some_iff.mp q2
    cases q4
    refine ha.so io B ps ε _ σ H ds _ o q1 fun vs B1 H1 s1 o1 r1 => ?_
    exact ⟨ds, _, r1.mono (smOf o1.sm), hn, q3, fun v H' s nw => k v B1 H' s1 (o1.new s nw)⟩
  · cases q2
/-! arguments with a hole: a name whose thing is changed -/
def mineAt (ε : En) (i : Nat) : Option D := (ε[i]?).bind Slot.mine
def setMine (ε : En) (i : Nat) (d : D) : En := match ε[i]? with
  | some (.io _) => ε.set i (.io d)
  | _ => ε.set i (.ow d)
/-- ahead of the hole, behind it -/
def MHo (K : PySem.W.Frag) (i k : Nat) (t : TA) (f : En → Option ((List D × List D) × En)) : Prop := ∀ (io : Option (Nat × V)) (B : Hp) (ps : List (V × D)) (ε ε' : En) (σ : L2.St) (H : Hp) (ds : List D × List D) (v : V) (Q : List V → Hp → Prop), Ok K io B ps ε σ H → σ[i]? = some (some v) → f ε = some (ds, ε') →
  (∀ pre post B' H', Same B B' → Ok K io B' ps ε' σ H' → RepL K B' pre ds.1 → RepL K B' post ds.2 → pre.length = k → Q (pre ++ v :: post) H') → t σ H Q
structure MH (X : Cx) (i k : Nat) (es : List Expr) (t : TA) (f : En → Option ((List D × List D) × En)) : Prop where
  pa : PA X es t
  so : MHo X.K i k t f
def mhHole (ms : En → Option (List D × En)) : En → Option ((List D × List D) × En) := fun ε => (ms ε).map fun x => (([], x.1), x.2)
def mhCons (m : FM) (f : En → Option ((List D × List D) × En)) : En → Option ((List D × List D) × En) := fun ε => (m ε).bind fun x => (f x.2).map fun y => ((x.1 :: y.1.1, y.1.2), y.2)
theorem mh_hole {i : Nat} {y : Str} {py : Pos} (ha : MA X es t ms) (hN : X.N[i]? = some y := by rfl) (hv : Vis X.env.scope y := by first | exact Or.inl rfl | exact Or.inr (Or.inl rfl) | exact Or.inr (Or.inr rfl)) (hs : starEach (.Name y py :: es) X.env = (false, eval (.Name y py) X.env) :: starEach es X.env := by rfl)
    (hd : (y == ("__debug__" : Str)) = false := by decide) (hcd : (y == ("__classdict__" : Str)) = false := by decide) : MH X i 0 (.Name y py :: es) (tCons (tVar i) t) (mhHole ms) := by
  refine ⟨pa_cons (pe_var hN hv hd hcd) ha.pa hs, fun io B ps ε ε' σ H ds v Q o hv q k => ?_⟩
  obtain ⟨⟨xs, ε1⟩, q1, q2⟩ := Option.map_eq_some_iff.mp q
  cases q2
  refine ⟨v, hv, ha.so io B ps ε _ σ H xs _ o q1 fun vs B1 H1 s1 o1 r1 => ?_⟩
  exact k [] vs B1 H1 s1 o1 .nil r1 rfl
theorem mh_cons {i k : Nat} {a : Expr} {ta : TE} {ma : FM} {f : En → Option ((List D × List D) × En)} (ha : MV X a ta ma) (hr : MH X i k es t f) (hs : starEach (a :: es) X.env = (false, eval a X.env) :: starEach es X.env := by rfl) : MH X i (k + 1) (a :: es) (tCons ta t) (mhCons ma f) := by
  refine ⟨pa_cons ha.pe hr.pa hs, fun io B ps ε ε' σ H ds v Q o hv q k => ?_⟩
  obtain ⟨⟨d, ε1⟩, q1, q⟩ := bindSome q
  obtain ⟨⟨⟨xs, ys⟩, ε2⟩, q2, q3⟩ := Option.map_eq_some_iff.mp q
  cases q3
  refine ha.so io B ps ε ε1 σ H d _ o q1 fun u B1 H1 s1 o1 r1 => ?_
  refine hr.so io B1 ps ε1 _ σ H1 (xs, ys) v _ o1 hv q2 fun pre post B2 H2 s2 o2 r2 r3 hl => ?_
  exact k (u :: pre) post B2 H2 (s1.trans s2) o2 (.cons (r1.mono (smOf s2)) r2) r3 (by simp [hl])
def mIo (n : Nat) (i : Nat) (g : List D → Option (D × D)) (f : En → Option ((List D × List D) × En)) : FM := fun ε => (mineAt ε i).bind fun _ => (f ε).bind fun x => if x.1.1.length + 1 + x.1.2.length = n then (mineAt x.2 i).bind fun d => (g (x.1.1 ++ d :: x.1.2)).map fun z => (z.1, setMine x.2 i z.2) else none
def turnS (s : Slot) (d' : D) : Slot := match s with
  | .io _ => .io d'
  | _ => .ow d'
theorem mine_turnS {s : Slot} {d' : D} : (turnS s d').mine = some d' := by cases s <;> rfl
/-- what a slot owns is changed -/
theorem Ok.turn {K : PySem.W.Frag} {io : Option (Nat × V)} {B H : Hp} {ps : List (V × D)} {ε : En} {σ : L2.St} (o : Ok K io B ps ε σ H) {i : Nat} {v : V} {d : D} (hv : σ[i]? = some (some v)) (hm : mineAt ε i = some d) :
    ∃ fp g, Rp K H v d fp ∧ fp.Nodup ∧ Same B (fun b => if b ∈ fp then none else H b) ∧ (∀ (L : List (V × D)) (H' : Hp) (d' : D), Same (fun b => if b ∈ fp then none else H b) H' → Owns K H' (fun b => if b ∈ fp then none else H b) ((v, d') :: L) → Ok K io B (L ++ ps) (setMine ε i d') σ H') ∧ g = fp := by
  obtain ⟨s, hs, hsm⟩ := bindSome hm
  have hl : i < ε.length := (List.getElem?_eq_some_iff.mp hs).1
  have pm := slots_out hs hsm hv (s' := .no) rfl
  obtain ⟨fp0, r0, nd0, f0⟩ := o.own.perm ((pm.symm.append_left ps).trans List.perm_middle)
  cases r0 with
  | @cons _ _ _ fp g rv rl =>
    obtain ⟨n1, n2, n3⟩ := List.nodup_append.mp nd0
    have sB : Same B (fun b => if b ∈ fp then none else H b) := fun a ob q => by
      have na : a ∉ fp := fun z => by rw [f0 a (List.mem_append_left _ z)] at q; cases q
      show (if a ∈ fp then none else H a) = some ob
      rw [if_neg na]; exact o.sm a ob q
    refine ⟨fp, fp, rv, n1, sB, fun L H' d' e ow => ?_, rfl⟩
    have e' : ∀ a ob, a ∉ fp → H a = some ob → H' a = some ob := fun a ob na q => e a ob (by show (if a ∈ fp then none else H a) = some ob; rw [if_neg na]; exact q)
    have tk : ∀ a xs, SqT K H a xs → SqT K H' a xs := fun a xs hx => by
      rcases hx with hx | hx
      · have na : a ∉ fp := fun z => by
          have := cell_notTup (rv.cell a z)
          rcases hx with hx | ⟨ob, hx⟩ <;> (rw [hx] at this; cases this)
        rcases hx with hx | ⟨ob, hx⟩
        · exact .inl (.inl (e' a _ na hx))
        · exact .inl (.inr ⟨ob, e' a _ na hx⟩)
      · exact .inr hx
    have rl' : RpP K H' (ps ++ slotsL (ε.set i .no) σ) g := rl.keep tk fun a ha => by
      have t := rl.there a ha
      cases z : H a with
      | none => exact absurd z t
      | some ob => exact e' a ob (fun z2 => n3 a z2 a ha rfl) z
    have own' : Owns K H' B (((v, d') :: L) ++ (ps ++ slotsL (ε.set i .no) σ)) := by
      obtain ⟨fq, rq, nq, fqn⟩ := ow
      refine ⟨fq ++ g, rq.append rl', List.nodup_append.mpr ⟨nq, n2, fun a ha b hb z => ?_⟩, fun a ha => ?_⟩
      · subst z
        have q := fqn a ha
        have q : (if a ∈ fp then none else H a) = none := q
        rw [if_neg (fun z => n3 a z a hb rfl)] at q
        exact rl.there a hb q
      · rcases List.mem_append.mp ha with ha | ha
        · exact Sm.free sB (fqn a ha)
        · exact f0 a (List.mem_append_right _ ha)
    have q : setMine ε i d' = ε.set i (turnS s d') := by
      unfold setMine
      rw [hs]
      cases s <;> rfl
    rw [q]
    have mine' : Slot.mine (turnS s d') = some d' := mine_turnS
    have sv : σ.set i (some v) = σ := by
      refine List.ext_getElem? fun j => ?_
      by_cases hj : i = j
      · subst hj
        rw [List.getElem?_set_self (List.getElem?_eq_some_iff.mp hv).1, hv]
      · rw [List.getElem?_set_ne hj]
    refine ⟨by simpa using o.len, sB.trans e, ?_, fun j s' d'' q hm' => ?_, fun j d'' q => ?_, fun j d'' q => ?_, fun j u q => ?_⟩
    · refine own'.perm ?_
      have sp := slots_put (ε := ε) (σ := σ) (i := i) (v := v) hl o.len mine'
      rw [sv] at sp
      rw [List.append_assoc]
      refine ((List.perm_middle (l₁ := []) (a := (v, d')) (l₂ := L ++ (ps ++ slotsL (ε.set i .no) σ))).trans ?_)
      rw [List.nil_append]
      have a1 : ((v, d') :: (L ++ (ps ++ slotsL (ε.set i .no) σ))).Perm (L ++ (ps ++ ((v, d') :: slotsL (ε.set i .no) σ))) := by
        have z := (List.perm_middle (l₁ := L ++ ps) (a := (v, d')) (l₂ := slotsL (ε.set i .no) σ)).symm
        rw [List.append_assoc, List.append_assoc] at z
        exact z
      exact a1.trans ((sp.symm.append_left ps).append_left L)
    · rcases set_get q with ⟨rfl, _⟩ | ⟨_, q⟩
      · exact ⟨v, hv⟩
      · exact o.has j s' d'' q hm'
    · rcases set_get q with ⟨_, z⟩ | ⟨_, q⟩
      · cases s <;> cases z
      · exact o.bo j d'' q
    · rcases set_get q with ⟨rfl, z⟩ | ⟨_, q⟩
      · cases s with
        | io z' => exact o.io1 i z' hs
        | _ => cases z
      · exact o.io1 j d'' q
    · obtain ⟨h1, d0, h2⟩ := o.io2 j u q
      refine ⟨h1, ?_⟩
      by_cases hj : i = j
      · subst hj
        rw [hs] at h2; cases h2
        exact ⟨d', List.getElem?_set_self hl⟩
      · exact ⟨d0, by rw [List.getElem?_set_ne hj]; exact h2⟩
theorem mm_io {K : PySem.W.Frag} {i k : Nat} {gi : List D → Option (D × D)} {f : En → Option ((List D × List D) × En)} (F : FnD X.prog X.w X.K X.mg X.base x lvl (spI K n k gi)) (hr : Room lvl X.A) (ha : MH X i k (e :: es) t f) (hK : X.K = K := by rfl) (hg : Gl X x := by rfl) (hdb : (x == ("__debug__" : Str)) = false := by decide)
    (he : starEach (e :: es) X.env = (false, eval e X.env) :: starEach es X.env := by rfl) (hpl : (backTo pos (starEach es X.env)).any (·.1) = false := by rfl) : MM X (.Call (.Name x p) (e :: es) [] pos) (tCR (spI K n k gi) t) (mIo n i gi f) := by
  subst hK
  obtain ⟨fa, hF, hm, hk⟩ := F.ex
  refine ⟨pe_callR hF hr hg hm hk ha.pa hdb he hpl, fun io B ps ε ε' σ H d Q o q k => ?_⟩
  obtain ⟨dz, q00, q⟩ := bindSome q
  obtain ⟨⟨⟨dpre, dpost⟩, ε1⟩, q1, q⟩ := bindSome q
  split at q
  · rename_i hn
    obtain ⟨d0, q2, q⟩ := bindSome q
    obtain ⟨⟨r, d'⟩, q3, q4⟩ := Option.map_eq_some_iff.mp q
    cases q4
    have hslot : ∃ v, σ[i]? = some (some v) := by
      obtain ⟨s, hs, hsm⟩ := bindSome q00
      exact o.has i s dz hs hsm
    obtain ⟨v, hv⟩ := hslot
    refine ha.so io B ps ε ε1 σ H (dpre, dpost) v _ o hv q1 fun pre post B1 H1 s1 o1 r1 r2 hl => ?_
    obtain ⟨fp, _, rv, nfp, sB, fin, _⟩ := o1.turn hv q2
    have hlen : pre.length + 1 + post.length = n := by rw [r1.length, r2.length]; exact hn
    refine ⟨pre, post, dpre, dpost, v, d0, r, d', fp, _, rfl, hl, hlen, rv, nfp, rfl, r1.mono (smOf sB), r2.mono (smOf sB), q3, fun u H' e ow => ?_⟩
    exact k u B1 H' s1 (fin [(u, r)] H' d' e (ow.perm (List.Perm.swap ..)))
  · cases q
end
end Pd

set_option Elab.async false
set_option linter.all false
set_option maxRecDepth 100000
set_option maxHeartbeats 4000000
/-! Pd9: lists that are changed; comprehensions whose parts may change a thing. -/
namespace Pd
open PySem PySem.Spec PyProof.Rows L2
section
variable {K : PySem.W.Frag} {io : Option (Nat × V)} {B B' H H' : Hp} {ps : List (V × D)} {ε ε' : En} {σ : L2.St}
theorem RpP.split {L2 : List (V × D)} : ∀ {L1 : List (V × D)} {fp : List Addr}, RpP K H (L1 ++ L2) fp → ∃ f g, fp = f ++ g ∧ RpP K H L1 f ∧ RpP K H L2 g
  | [], fp, r => ⟨[], fp, rfl, .nil, r⟩
  | p :: L1, _, .cons r t => by
    obtain ⟨f, g, rfl, r1, r2⟩ := RpP.split t
    exact ⟨_ ++ f, g, (List.append_assoc ..).symm, .cons r r1, r2⟩
theorem RpP.toL : ∀ {vs : List V} {ds : List D} {fp : List Addr}, vs.length = ds.length → RpP K H (vs.zip ds) fp → RpL K H vs ds fp
  | [], [], _, _, .nil => .nil
  | [], _ :: _, _, h, _ => by simp at h
  | _ :: _, [], _, h, _ => by simp at h
  | v :: vs, d :: ds, _, h, .cons r t => .cons r (RpP.toL (by simpa using h) t)
theorem Same.updN {l : Addr} (e : Same B H) (h : B l = none) (o : HO) : Same B (upd H l o) := fun a ob q => by
  have : a ≠ l := ne_of_none q h
  rw [upd_ne this]; exact e a ob q
/-- a list is opened: its items are owned one by one -/
theorem Owns.openL {L : List (V × D)} {v : V} {xs : List D} (o : Owns K H B ((v, .list xs) :: L)) : ∃ l vs, v = .ref l ∧ H l = some (.lst vs) ∧ vs.length = xs.length ∧ B l = none ∧ ∀ u, Owns K H (upd B l u) (vs.zip xs ++ L) := by
  obtain ⟨fp, r, nd, f⟩ := o
  cases r with
  | cons r t =>
    cases r with
    | @lst l vs _ fq h1 rl =>
      have nd' : (l :: (fq ++ _)).Nodup := nd
      obtain ⟨n1, n2⟩ := List.nodup_cons.mp nd'
      refine ⟨l, vs, rfl, h1, rl.length, f l List.mem_cons_self, fun u => ⟨_, rl.toP.append t, n2, fun a ha => ?_⟩⟩
      have na : a ≠ l := fun z => n1 (z ▸ ha)
      rw [upd_ne na]
      exact f a (List.mem_cons_of_mem _ ha)
/-- .. and closed again, with what it holds now -/
theorem Owns.closeL {L : List (V × D)} {l : Addr} {vs0 vs : List V} {xs : List D} {u : HO} (h : H l = some (.lst vs0)) (hb : B l = none) (e : vs.length = xs.length) (o : Owns K H (upd B l u) (vs.zip xs ++ L)) : Owns K (upd H l (.lst vs)) B ((.ref l, .list xs) :: L) := by
  obtain ⟨fp, r, nd, f⟩ := o
  obtain ⟨f1, g1, rfl, r1, r2⟩ := r.split
  have nl : ∀ a ∈ f1 ++ g1, a ≠ l := fun a ha z => by
    subst z
    have := f _ ha
    rw [upd_same] at this
    cases this
  have tk : ∀ a xs, SqT K H a xs → SqT K (upd H l (.lst vs)) a xs := fun a xs hx => by
    rcases hx with hx | hx
    · have na : a ≠ l := by
        rintro rfl
        rcases hx with hx | ⟨o, hx⟩ <;> (rw [h] at hx; cases hx)
      refine .inl ?_
      rcases hx with hx | ⟨o, hx⟩
      · exact .inl (by rw [upd_ne na]; exact hx)
      · exact .inr ⟨o, by rw [upd_ne na]; exact hx⟩
    · exact .inr hx
  have k1 := (RpP.toL e r1).keep tk fun a ha => upd_ne (nl a (List.mem_append_left _ ha))
  have k2 := r2.keep tk fun a ha => upd_ne (nl a (List.mem_append_right _ ha))
  refine ⟨l :: f1 ++ g1, .cons (.lst upd_same k1) k2, ?_, fun a ha => ?_⟩
  · refine List.nodup_cons.mpr ⟨fun z => nl _ z rfl, nd⟩
  · rcases List.mem_cons.mp ha with rfl | ha
    · exact hb
    · have := f a ha
      rw [upd_ne (nl a ha)] at this
      exact this
theorem zip_snoc {α β : Type} : ∀ {xs : List α} {ys : List β} {x : α} {y : β}, xs.length = ys.length → (xs ++ [x]).zip (ys ++ [y]) = xs.zip ys ++ [(x, y)]
  | [], [], _, _, _ => rfl
  | [], _ :: _, _, _, h => by simp at h
  | _ :: _, [], _, _, h => by simp at h
  | a :: xs, b :: ys, x, y, h => by simp [zip_snoc (xs := xs) (ys := ys) (x := x) (y := y) (by simpa using h)]
/-- a pending thing goes to the end of a pending list -/
theorem Owns.app {L : List (V × D)} {v u : V} {xs : List D} {y : D} (o : Owns K H B ((u, y) :: (v, .list xs) :: L)) : ∃ l acc, v = .ref l ∧ H l = some (.lst acc) ∧ acc.length = xs.length ∧ B l = none ∧ Owns K (upd H l (.lst (acc ++ [u]))) B ((v, .list (xs ++ [y])) :: L) := by
  obtain ⟨l, acc, rfl, h1, h2, h3, h4⟩ := (o.perm (List.Perm.swap ..)).openL
  refine ⟨l, acc, rfl, h1, h2, h3, Owns.closeL (u := .lst []) h1 h3 (by simp [h2]) ?_⟩
  rw [zip_snoc h2, List.append_assoc]
  exact h4 _
theorem Ok.app {v u : V} {xs : List D} {y : D} (o : Ok K io B ((u, y) :: (v, .list xs) :: ps) ε σ H) : ∃ l acc, v = .ref l ∧ H l = some (.lst acc) ∧ acc.length = xs.length ∧ Ok K io B ((v, .list (xs ++ [y])) :: ps) ε σ (upd H l (.lst (acc ++ [u]))) := by
  obtain ⟨l, acc, h1, h2, h3, h4, h5⟩ := Owns.app (L := ps ++ slotsL ε σ) o.own
  exact ⟨l, acc, h1, h2, h3, o.len, Same.updN o.sm h4 _, h5, o.has, o.bo, o.io1, o.io2⟩
/-! what a slot holds is taken, changed, given back -/
theorem Ok.takeS (o : Ok K io B ps ε σ H) {i : Nat} {d : D} (hm : mineAt ε i = some d) : ∃ v, σ[i]? = some (some v) ∧ Owns K H B ((v, d) :: (ps ++ slotsL (ε.set i .no) σ)) := by
  obtain ⟨s, hs, hsm⟩ := bindSome hm
  obtain ⟨v, hv⟩ := o.has i s d hs hsm
  refine ⟨v, hv, o.own.perm ?_⟩
  exact ((slots_out hs hsm hv rfl).symm.append_left ps).trans List.perm_middle
theorem Ok.giveS (o : Ok K io B ps ε σ H) {i : Nat} {d d' : D} {v : V} {ps' : List (V × D)} (hm : mineAt ε i = some d) (hv : σ[i]? = some (some v)) (sm : Same B H') (own' : Owns K H' B ((v, d') :: (ps' ++ slotsL (ε.set i .no) σ))) : Ok K io B ps' (setMine ε i d') σ H' := by
  obtain ⟨s, hs, hsm⟩ := bindSome hm
  have hl : i < ε.length := (List.getElem?_eq_some_iff.mp hs).1
  have q : setMine ε i d' = ε.set i (turnS s d') := by
    unfold setMine
    rw [hs]
    cases s <;> rfl
  rw [q]
  have sv : σ.set i (some v) = σ := by
    refine List.ext_getElem? fun j => ?_
    by_cases hj : i = j
    · subst hj
      rw [List.getElem?_set_self (List.getElem?_eq_some_iff.mp hv).1, hv]
    · rw [List.getElem?_set_ne hj]
  refine ⟨by simpa using o.len, sm, ?_, fun j s' d'' q hm' => ?_, fun j d'' q => ?_, fun j d'' q => ?_, fun j u q => ?_⟩
  · refine own'.perm ?_
    have sp := slots_put (ε := ε) (σ := σ) (i := i) (v := v) hl o.len (mine_turnS (s := s) (d' := d'))
    rw [sv] at sp
    exact (List.perm_middle (l₁ := ps') (a := (v, d')) (l₂ := slotsL (ε.set i .no) σ)).symm.trans (sp.symm.append_left ps')
  · rcases set_get q with ⟨rfl, _⟩ | ⟨_, q⟩
    · exact ⟨v, hv⟩
    · exact o.has j s' d'' q hm'
  · rcases set_get q with ⟨_, z⟩ | ⟨_, q⟩
    · cases s <;> cases z
    · exact o.bo j d'' q
  · rcases set_get q with ⟨rfl, z⟩ | ⟨_, q⟩
    · cases s with
      | io z' => exact o.io1 i z' hs
      | _ => cases z
    · exact o.io1 j d'' q
  · obtain ⟨h1, d0, h2⟩ := o.io2 j u q
    refine ⟨h1, ?_⟩
    by_cases hj : i = j
    · subst hj
      rw [hs] at h2; cases h2
      exact ⟨d', List.getElem?_set_self hl⟩
    · exact ⟨d0, by rw [List.getElem?_set_ne hj]; exact h2⟩
/-- the list in a slot: where it stands -/
theorem Ok.lstAt (o : Ok K io B ps ε σ H) {i : Nat} {xs : List D} (hm : mineAt ε i = some (.list xs)) : ∃ l vs, σ[i]? = some (some (.ref l)) ∧ H l = some (.lst vs) ∧ vs.length = xs.length := by
  obtain ⟨v, hv, ow⟩ := o.takeS hm
  obtain ⟨l, vs, rfl, h1, h2, _⟩ := ow.openL
  exact ⟨l, vs, hv, h1, h2⟩
end

/-! ### xs.append(e), xs[i] = e, xs.pop(i) for a name xs that holds its list -/
section
variable {X : Cx} {e o : Expr} {te : TE} {m : FM} {pos pos' ap cp px : Pos}
def gApp (x : D) (y : D) : Option D := match x with
  | .list xs => if xs.length ≤ cap then some (.list (xs ++ [y])) else none
  | _ => none
def isLst : D → Bool
  | .list _ => true
  | _ => false
def mApp (i : Nat) (m : FM) : FM := fun ε => (mineAt ε i).bind fun x => if isLst x then (m ε).bind fun y => (mineAt y.2 i).bind fun z => (gApp z y.1).map fun w => (.none, setMine y.2 i w) else none
theorem isLst_of {x : D} (h : isLst x = true) : ∃ xs, x = .list xs := by cases x <;> first | exact ⟨_, rfl⟩ | cases h
theorem mm_app {K : PySem.W.Frag} {i : Nat} {x : Str} (he : MM X e te m) (hN : X.N[i]? = some x := by rfl) (hv : Vis X.env.scope x := by first | exact Or.inl rfl | exact Or.inr (Or.inl rfl) | exact Or.inr (Or.inr rfl)) (hd : (x == ("__debug__" : Str)) = false := by decide) (hcd : (x == ("__classdict__" : Str)) = false := by decide)
    (h1 : attributeBase (.Name x px) "append" X.env (eval (.Name x px) X.env) = eval (.Name x px) X.env := by rfl)
    (h2 : ((((backTo cp (starEach [e] X.env)).all fun x => !x.1) && (backToKw cp (keywordEach [] X.env)).all fun x => x.1.isSome) && decide (([e] : List Expr).length + ([] : List Keyword).length + (if ([] : List Keyword).isEmpty = true then 0 else 1) < 30)) = true := by rfl)
    (h3 : (ap.endLine == cp.line) = true := by rfl) (h4 : starEach [e] X.env = (false, eval e X.env) :: starEach [] X.env := by rfl) (h5 : ((backTo cp (starEach [] X.env)).any fun x => x.1) = false := by rfl) (hK : X.K = K := by rfl) :
    MM X (.Call (.Attribute (.Name x px) "append" ap) [e] [] cp) (tBM K "list" rAppend (tVar i) (tCons te tNil)) (mApp i m) := by
  subst hK
  refine ⟨pe_bm PySem.F.plainAttrs_list PySem.F.slot_list_append PySem.F.type_list_append mt_append (pe_var hN hv hd hcd) (pa_cons he.pe pa_nil h4) h1 h2 h3 h4 h5, fun io B ps ε ε' σ H d Q o q k => ?_⟩
  obtain ⟨x0, q0, q⟩ := bindSome q
  split at q
  · rename_i hx
    obtain ⟨xs0, rfl⟩ := isLst_of hx
    obtain ⟨⟨y, ε1⟩, q1, q⟩ := bindSome q
    obtain ⟨z, q2, q⟩ := bindSome q
    obtain ⟨w, q3, q4⟩ := Option.map_eq_some_iff.mp q
    cases q4
    obtain ⟨l, vs, hσ, hH, _⟩ := o.lstAt q0
    refine ⟨_, hσ, .inl ⟨rfl, vs, .inl (.inl hH)⟩, he.so io B ps ε ε1 σ H y _ o q1 fun u B1 H1 s1 o1 => ?_⟩
    cases z with
    | list xs =>
      simp only [gApp] at q3
      split at q3
      · rename_i hc
        cases q3
        obtain ⟨v', hv', ow⟩ := o1.takeS q2
        rw [hσ] at hv'; cases hv'
        have ow2 := ow.perm (L' := (u, y) :: (.ref l, .list xs) :: (ps ++ slotsL (ε1.set i .no) σ)) (List.Perm.swap ..)
        obtain ⟨l', acc, e1, h1, h2, h3, h5⟩ := ow2.app
        cases e1
        refine ⟨l, acc, u, rfl, rfl, h1, Nat.lt_of_le_of_lt (by rw [h2]; exact hc) (by unfold cap; decide), ?_⟩
        have o2 := o1.drop.giveS (ps' := ps) q2 hσ (Same.updN o1.sm h3 _) h5
        exact k _ B1 _ s1 (o2.new (Same.refl _) newNon)
      · cases q3
    | _ => cases q3
  · cases q
/-- the j-th item, k counted as Python does -/
def gSetL (x : D) (k y : D) : Option D := match x, k with
  | .list xs, .int k => (ixN xs.length k).map fun j => .list (xs.set j y)
  | _, _ => none
def bSub (i : Nat) (f : FE) : Bd := fun d ε => (f ε).bind fun k => (mineAt ε i).bind fun x => (gSetL x k d).map fun w => setMine ε i w
theorem zip_set {α β : Type} : ∀ {xs : List α} {ys : List β} {j : Nat} {x : α} {y : β}, (xs.set j x).zip (ys.set j y) = (xs.zip ys).set j (x, y)
  | [], _, _, _, _ => by simp
  | _ :: _, [], _, _, _ => by simp
  | a :: xs, b :: ys, 0, x, y => by simp
  | a :: xs, b :: ys, j + 1, x, y => by simp [zip_set (xs := xs) (ys := ys)]
theorem perm_set {α : Type} : ∀ {xs : List α} {j : Nat} {x y : α}, xs[j]? = some y → (x :: xs).Perm (y :: xs.set j x)
  | [], _, _, _, h => by simp at h
  | a :: xs, 0, x, y, h => by simp at h; subst h; exact List.Perm.swap ..
  | a :: xs, j + 1, x, y, h => by
    have := perm_set (xs := xs) (j := j) (x := x) (y := y) (by simpa using h)
    simp only [List.set_cons_succ]
    exact (List.Perm.swap ..).trans ((this.cons a).trans (List.Perm.swap ..))
theorem zip_at {α β : Type} : ∀ {xs : List α} {ys : List β} {j : Nat}, xs.length = ys.length → j < xs.length → ∃ x y, xs[j]? = some x ∧ ys[j]? = some y ∧ (xs.zip ys)[j]? = some (x, y)
  | [], _, _, _, h => by simp at h
  | _ :: _, [], _, h, _ => by simp at h
  | a :: xs, b :: ys, 0, h, h2 => ⟨a, b, rfl, rfl, rfl⟩
  | a :: xs, b :: ys, j + 1, h, h2 => by
    obtain ⟨x, y, h1, h3, h4⟩ := zip_at (xs := xs) (ys := ys) (j := j) (by simpa using h) (by simpa using h2)
    exact ⟨x, y, by simpa using h1, by simpa using h3, by simpa using h4⟩
theorem ixN_lt {n j : Nat} {k : Int} (h : ixN n k = some j) : j < n := by
  unfold ixN at h
  split at h <;> (try split at h) <;> (try cases h) <;> omega
theorem mg_sub {i : Nat} {x : Str} {ie : Expr} {ti : TE} {f : FE} (hi : PP X ie ti f) (hN : X.N[i]? = some x := by rfl) (hv : Vis X.env.scope x := by first | exact Or.inl rfl | exact Or.inr (Or.inl rfl) | exact Or.inr (Or.inr rfl)) (hd : (x == ("__debug__" : Str)) = false := by decide) (hcd : (x == ("__classdict__" : Str)) = false := by decide)
    (h1 : ∀ v : Value, assign (.Subscript (.Name x px) ie pos) X.env v = (do
        let ov ← holding [v] (eval (.Name x px) X.env)
        let iv ← holding [v, ov] (eval ie X.env)
        standAt pos
        holding [v, ov, iv] (setItem ov iv v)
        release [v, ov, iv] []) := by intro _; rfl) :
    MG X (.Subscript (.Name x px) ie pos) (L2.gSub (tVar i) ti rSetL) (bSub i f) := by
  refine ⟨pg_sub (pe_var hN hv hd hcd) hi.pe set_list h1, fun io B ps ε ε' σ H v d Q o q k => ?_⟩
  obtain ⟨kd, q1, q⟩ := bindSome q
  obtain ⟨x0, q2, q⟩ := bindSome q
  obtain ⟨w, q3, rfl⟩ := Option.map_eq_some_iff.mp q
  cases x0 with
  | list xs =>
    cases kd with
    | int kk =>
      obtain ⟨j, q4, rfl⟩ := Option.map_eq_some_iff.mp q3
      obtain ⟨v0, hσ, ow⟩ := o.takeS q2
      have ow2 := ow.perm (L' := (.ref 0, .list xs) :: (v, d) :: (ps ++ slotsL (ε.set i .no) σ))
      obtain ⟨l, vs, rfl, h1, h2, h3, h4⟩ := ow.openL
      refine ⟨_, hσ, hi.so ε σ H (.int kk) _ o.okR q1 fun iv H1 s1 r1 => ?_⟩
      cases r1
      have hj : j < vs.length := by rw [h2]; exact ixN_lt q4
      refine ⟨l, vs, kk, j, rfl, rfl, s1 _ _ h1, by rw [h2]; exact q4, ?_⟩
      obtain ⟨xv, yv, e1, e2, e3⟩ := zip_at h2 hj
      have h4' : Owns X.K H1 (upd B l (.lst [])) (vs.zip xs ++ ((v, d) :: (ps ++ slotsL (ε.set i .no) σ))) := (h4 (.lst [])).same s1
      have pm : (vs.zip xs ++ ((v, d) :: (ps ++ slotsL (ε.set i .no) σ))).Perm ((xv, yv) :: ((vs.set j v).zip (xs.set j d) ++ (ps ++ slotsL (ε.set i .no) σ))) := by
        refine List.perm_middle.trans ?_
        rw [zip_set]
        exact (perm_set e3).append_right _
      have h5 := (h4'.perm pm).sub (List.sublist_cons_self _ _)
      have h6 := Owns.closeL (s1 _ _ h1) h3 (by simp [h2]) h5
      exact k σ _ (o.drop.giveS (ps' := ps) q2 hσ (Same.updN (o.sm.trans s1) h3 _) h6)
    | _ => cases q3
  | _ => cases q3
/-- xs.pop(k): the item, and the list without it -/
def gPopAt (x k : D) : Option (D × D) := match x, k with
  | .list xs, .int k => if -(2 ^ 63) ≤ k ∧ k < 2 ^ 63 then (seqIndex? k xs.length).bind fun j => (xs[j]?).map fun y => (y, .list (xs.eraseIdx j)) else none
  | _, _ => none
def mPopAt (i : Nat) (m : FM) : FM := fun ε => (mineAt ε i).bind fun x => if isLst x then (m ε).bind fun y => (mineAt y.2 i).bind fun z => (gPopAt z y.1).map fun w => (w.1, setMine y.2 i w.2) else none
theorem perm_erase {α : Type} : ∀ {xs : List α} {j : Nat} {y : α}, xs[j]? = some y → xs.Perm (y :: xs.eraseIdx j)
  | [], _, _, h => by simp at h
  | a :: xs, 0, y, h => by simp at h; subst h; exact List.Perm.refl _
  | a :: xs, j + 1, y, h => by
    have := perm_erase (xs := xs) (j := j) (y := y) (by simpa using h)
    simp only [List.eraseIdx_cons_succ]
    exact (this.cons a).trans (List.Perm.swap ..)
theorem zip_erase {α β : Type} : ∀ {xs : List α} {ys : List β} {j : Nat}, (xs.eraseIdx j).zip (ys.eraseIdx j) = (xs.zip ys).eraseIdx j
  | [], _, _ => by simp
  | _ :: _, [], _ => by simp
  | a :: xs, b :: ys, 0 => by simp
  | a :: xs, b :: ys, j + 1 => by simp [zip_erase (xs := xs) (ys := ys)]
theorem mm_popAt {K : PySem.W.Frag} {i : Nat} {x : Str} (he : MM X e te m) (hN : X.N[i]? = some x := by rfl) (hv : Vis X.env.scope x := by first | exact Or.inl rfl | exact Or.inr (Or.inl rfl) | exact Or.inr (Or.inr rfl)) (hd : (x == ("__debug__" : Str)) = false := by decide) (hcd : (x == ("__classdict__" : Str)) = false := by decide)
    (h1 : attributeBase (.Name x px) "pop" X.env (eval (.Name x px) X.env) = eval (.Name x px) X.env := by rfl)
    (h2 : ((((backTo cp (starEach [e] X.env)).all fun x => !x.1) && (backToKw cp (keywordEach [] X.env)).all fun x => x.1.isSome) && decide (([e] : List Expr).length + ([] : List Keyword).length + (if ([] : List Keyword).isEmpty = true then 0 else 1) < 30)) = true := by rfl)
    (h3 : (ap.endLine == cp.line) = true := by rfl) (h4 : starEach [e] X.env = (false, eval e X.env) :: starEach [] X.env := by rfl) (h5 : ((backTo cp (starEach [] X.env)).any fun x => x.1) = false := by rfl) (hK : X.K = K := by rfl) :
    MM X (.Call (.Attribute (.Name x px) "pop" ap) [e] [] cp) (tBM K "list" rPopAt (tVar i) (tCons te tNil)) (mPopAt i m) := by
  subst hK
  refine ⟨pe_bm PySem.F.plainAttrs_list PySem.F.slot_list_pop PySem.F.type_list_pop mt_popAt (pe_var hN hv hd hcd) (pa_cons he.pe pa_nil h4) h1 h2 h3 h4 h5, fun io B ps ε ε' σ H d Q o q k => ?_⟩
  obtain ⟨x0, q0, q⟩ := bindSome q
  split at q
  · rename_i hx
    obtain ⟨xs0, rfl⟩ := isLst_of hx
    obtain ⟨⟨y, ε1⟩, q1, q⟩ := bindSome q
    obtain ⟨z, q2, q⟩ := bindSome q
    obtain ⟨⟨w, w'⟩, q3, q4⟩ := Option.map_eq_some_iff.mp q
    cases q4
    obtain ⟨l, vs, hσ, hH, _⟩ := o.lstAt q0
    refine ⟨_, hσ, .inl ⟨rfl, vs, .inl (.inl hH)⟩, he.so io B ps ε ε1 σ H y _ o q1 fun u B1 H1 s1 o1 => ?_⟩
    cases z with
    | list xs =>
      cases y with
      | int kk =>
        simp only [gPopAt] at q3
        split at q3
        · rename_i hc
          obtain ⟨j, q4, q5⟩ := bindSome q3
          obtain ⟨yv, q6, q7⟩ := Option.map_eq_some_iff.mp q5
          cases q7
          have ru : Rep X.K H1 u (.int kk) := o1.own.rep List.mem_cons_self
          cases ru
          obtain ⟨v', hv', ow⟩ := o1.drop.takeS q2
          rw [hσ] at hv'; cases hv'
          obtain ⟨l', acc, e1, h1, h2, h3, h4⟩ := ow.openL
          cases e1
          have hj : j < acc.length := by rw [h2]; exact (List.getElem?_eq_some_iff.mp q6).1
          obtain ⟨xv, yv', f1, f2, f3⟩ := zip_at h2 hj
          rw [q6] at f2; cases f2
          refine ⟨l, acc, kk, j, xv, rfl, rfl, h1, hc.1, hc.2, by rw [h2]; exact q4, f1, ?_⟩
          have h5 : Owns X.K H1 (upd B1 l (.lst [])) ((acc.eraseIdx j).zip (xs.eraseIdx j) ++ ((xv, w) :: (ps ++ slotsL (ε1.set i .no) σ))) := by
            refine (h4 (.lst [])).perm ?_
            rw [zip_erase]
            refine ((perm_erase f3).append_right _).trans ?_
            exact List.perm_middle.symm
          have h6 := Owns.closeL h1 h3 (by simp [List.length_eraseIdx, h2]) h5
          have o2 := o1.drop.giveS (ps' := (xv, w) :: ps) q2 hσ (Same.updN o1.sm h3 _) h6
          exact k _ B1 _ s1 o2
        · cases q3
      | _ => cases q3
    | _ => cases q3
  · cases q
end

/-! ### comprehensions -/
section
variable {K : PySem.W.Frag} {io : Option (Nat × V)} {B B' H H' : Hp} {ps : List (V × D)} {ε ε' : En} {σ : L2.St}
theorem slots_none : ∀ {ε : En} {σ : L2.St} {i : Nat}, slotsL (ε.set i .no) (σ.set i none) = slotsL (ε.set i .no) σ
  | [], _, _ => rfl
  | _ :: _, [], i => by cases i <;> simp [slotsL]
  | s :: ε, o :: σ, 0 => by simp [slotsL, Slot.mine]
  | s :: ε, o :: σ, i + 1 => by simp only [List.set_cons_succ, slotsL, slots_none]
theorem Ok.nio (o : Ok K io B ps ε σ H) {i : Nat} (h : ∀ v, io ≠ some (i, v)) (d : D) : ε[i]? ≠ some (.io d) := fun z => by
  obtain ⟨v, q⟩ := o.io1 i d z
  exact h v q
theorem Ok.nio2 (o : Ok K io B ps ε σ H) {i : Nat} (h : ∀ v, io ≠ some (i, v)) (hl : i < ε.length) : notIo ε[i]? = true := by
  cases q : ε[i]? with
  | none => rw [List.getElem?_eq_none_iff] at q; omega
  | some s =>
    cases s with
    | io d => exact absurd q (o.nio h d)
    | _ => rfl
theorem Ok.del (o : Ok K io B ps ε σ H) {i : Nat} (h : ∀ v, io ≠ some (i, v)) : Ok K io B ps (ε.set i .no) (σ.set i none) H := by
  refine ⟨by simpa using o.len, o.sm, ?_, fun j s e q hm => ?_, fun j e q => ?_, fun j e q => ?_, fun j u q => ?_⟩
  · rw [slots_none]
    exact o.own.sub ((slots_del rfl).append_left ps)
  · rcases set_get q with ⟨rfl, rfl⟩ | ⟨ne, q⟩
    · cases hm
    · obtain ⟨u, hu⟩ := o.has j s e q hm
      exact ⟨u, by rw [List.getElem?_set_ne ne]; exact hu⟩
  · rcases set_get q with ⟨_, z⟩ | ⟨ne, q⟩
    · cases z
    · obtain ⟨u, hu, r⟩ := o.bo j e q
      exact ⟨u, by rw [List.getElem?_set_ne ne]; exact hu, r⟩
  · rcases set_get q with ⟨_, z⟩ | ⟨_, q⟩
    · cases z
    · exact o.io1 j e q
  · obtain ⟨h1, d', h2⟩ := o.io2 j u q
    have ne : i ≠ j := fun z => by subst z; exact h u q
    exact ⟨by rw [List.getElem?_set_ne ne]; exact h1, d', by rw [List.getElem?_set_ne ne]; exact h2⟩
theorem Ok.undel {i : Nat} (o : Ok K io B ps ε (σ.set i none) H) (h : ∀ v, io ≠ some (i, v)) : Ok K io B ps (ε.set i .no) σ H := by
  refine ⟨by simpa using o.len, o.sm, ?_, fun j s e q hm => ?_, fun j e q => ?_, fun j e q => ?_, fun j u q => ?_⟩
  · rw [← slots_none]
    exact o.own.sub ((slots_del rfl).append_left ps)
  · rcases set_get q with ⟨rfl, rfl⟩ | ⟨ne, q⟩
    · cases hm
    · obtain ⟨u, hu⟩ := o.has j s e q hm
      exact ⟨u, by rw [List.getElem?_set_ne ne] at hu; exact hu⟩
  · rcases set_get q with ⟨_, z⟩ | ⟨ne, q⟩
    · cases z
    · obtain ⟨u, hu, r⟩ := o.bo j e q
      exact ⟨u, by rw [List.getElem?_set_ne ne] at hu; exact hu, r⟩
  · rcases set_get q with ⟨_, z⟩ | ⟨_, q⟩
    · cases z
    · exact o.io1 j e q
  · obtain ⟨h1, d', h2⟩ := o.io2 j u q
    have ne : i ≠ j := fun z => by subst z; exact h u q
    exact ⟨by rw [List.getElem?_set_ne ne] at h1; exact h1, d', by rw [List.getElem?_set_ne ne]; exact h2⟩
def wOk : Option Slot → Bool
  | some .no => true
  | some (.bo _) => true
  | some (.ow d) => frozen d
  | _ => false
def wipeOk (ε : En) (vs : List Nat) : Bool := decide vs.Nodup && vs.all fun i => wOk ε[i]?
def toBo : Option Slot → Slot
  | some (.bo d) => .bo d
  | some (.ow d) => .bo d
  | _ => .no
def backE (ε : En) : List Nat → En → En
  | [], ε' => ε'
  | v :: vs, ε' => backE ε vs (ε'.set v (toBo ε[v]?))
/-- what a block's own names stood for -/
def Back (K : PySem.W.Frag) (B : Hp) (ε : En) (σ : L2.St) (vs : List Nat) : Prop := ∀ i ∈ vs, i < ε.length ∧ ∀ d, toBo ε[i]? = .bo d → ∃ v, σ[i]? = some (some v) ∧ Rep K B v d
theorem Back.mono {vs : List Nat} (h : Back K B ε σ vs) (e : Same B B') : Back K B' ε σ vs := fun i hi => ⟨(h i hi).1, fun d q => let ⟨v, h1, h2⟩ := (h i hi).2 d q; ⟨v, h1, h2.mono (smOf e)⟩⟩
theorem Ok.prep (o : Ok K io B ps ε σ H) : ∀ (vs : List Nat), (vs.all fun i => wOk ε[i]?) = true → ∃ B', Same B B' ∧ Ok K io B' ps ε σ H ∧ Back K B' ε σ vs
  | [], _ => ⟨B, Same.refl B, o, fun i hi => nomatch hi⟩
  | i :: vs, h => by
    rw [List.all_cons, Bool.and_eq_true] at h
    obtain ⟨B1, s1, o1, b1⟩ := Ok.prep o vs h.2
    have hl : i < ε.length := by
      cases q : ε[i]? with
      | none => rw [q] at h; exact absurd h.1 (by decide)
      | some s => exact (List.getElem?_eq_some_iff.mp q).1
    have fin : ∀ B2, Same B1 B2 → Ok K io B2 ps ε σ H → (∀ d, toBo ε[i]? = .bo d → ∃ v, σ[i]? = some (some v) ∧ Rep K B2 v d) → ∃ B', Same B B' ∧ Ok K io B' ps ε σ H ∧ Back K B' ε σ (i :: vs) := fun B2 s2 o2 hb =>
      ⟨B2, s1.trans s2, o2, fun j hj => by
        rcases List.mem_cons.mp hj with rfl | hj
        · exact ⟨hl, hb⟩
        · exact (b1.mono s2) j hj⟩
    cases q : ε[i]? with
    | none => rw [q] at h; exact absurd h.1 (by decide)
    | some s =>
      cases s with
      | no => exact fin B1 (Same.refl _) o1 fun d z => by rw [q] at z; cases z
      | bo d => exact fin B1 (Same.refl _) o1 fun d' z => by rw [q] at z; cases z; exact o1.bo i d q
      | io d => rw [q] at h; simp [wOk] at h
      | ow d =>
        rw [q] at h
        have hz : frozen d = true := h.1
        obtain ⟨v, hv⟩ := o1.has i _ _ q rfl
        have rv : Rep K H v d := o1.own.rep (List.mem_append_right _ (slots_mem q rfl hv))
        obtain ⟨B2, s2, r2, o2⟩ := (show Ok K io B1 ((v, d) :: ps) ε σ H from ⟨o1.len, o1.sm, o1.own.frz rv hz, o1.has, o1.bo, o1.io1, o1.io2⟩).pin
        exact fin B2 s2 o2 fun d' z => by rw [q] at z; cases z; exact ⟨v, hv, r2⟩
theorem wipeE_length (ε : En) (vs : List Nat) : (wipeE ε vs).length = ε.length := by
  induction vs with
  | nil => rfl
  | cons v vs ih => simp [wipeE, ih]
theorem Ok.wipe (o : Ok K io B ps ε σ H) : ∀ {vs : List Nat}, (∀ i ∈ vs, ∀ v, io ≠ some (i, v)) → Ok K io B ps (wipeE ε vs) (wipe σ vs) H
  | [], _ => o
  | i :: vs, h => (Ok.wipe o fun j hj => h j (List.mem_cons_of_mem _ hj)).del (h i List.mem_cons_self)
theorem Ok.unwipe {ε0 : En} : ∀ {vs : List Nat} {ε : En}, vs.Nodup → Ok K io B ps ε (L2.wipe σ vs) H → ε.length = ε0.length → Back K B ε0 σ vs → (∀ i ∈ vs, ∀ v, io ≠ some (i, v)) → Ok K io B ps (backE ε0 vs ε) σ H
  | [], _, _, o, _, _, _ => o
  | i :: vs, ε, nd, o, hl, hb, h => by
    obtain ⟨n1, n2⟩ := List.nodup_cons.mp nd
    have o' : Ok K io B ps ε ((L2.wipe σ vs).set i none) H := o
    have hi := h i List.mem_cons_self
    obtain ⟨hlt, hbi⟩ := hb i List.mem_cons_self
    unfold backE
    refine Ok.unwipe n2 ?_ (by simpa using hl) (fun j hj => hb j (List.mem_cons_of_mem _ hj)) fun j hj => h j (List.mem_cons_of_mem _ hj)
    cases q : toBo ε0[i]? with
    | no => exact o'.undel hi
    | bo d =>
      obtain ⟨v, hv, r⟩ := hbi d q
      have p := o'.putB r (o'.nio2 hi (by omega))
      rw [List.set_set] at p
      have e : (L2.wipe σ vs).set i (some v) = L2.wipe σ vs := by
        refine List.ext_getElem? fun j => ?_
        by_cases hj : i = j
        · subst hj
          have hv' : (L2.wipe σ vs)[i]? = some (some v) := by rw [wipe_get n1]; exact hv
          rw [List.getElem?_set_self (List.getElem?_eq_some_iff.mp hv').1, hv']
        · rw [List.getElem?_set_ne hj]
      rw [e] at p
      exact p
    | ow d =>
      cases z : ε0[i]? with
      | none => rw [z] at q; cases q
      | some s => rw [z] at q; cases s <;> cases q
    | io d =>
      cases z : ε0[i]? with
      | none => rw [z] at q; cases q
      | some s => rw [z] at q; cases s <;> cases q
theorem tov_grow {B1 B2 H : Hp} (e2 : Same B1 B2) (e3 : Same B2 H) : Same (tov B1 H) (tov B2 H) := fun a ob hb => by
  unfold tov at hb ⊢
  cases z : B1 a with
  | some ob' => rw [z] at hb; cases hb; rw [e2 a ob z]
  | none =>
    rw [z] at hb
    simp only at hb
    split at hb
    · rename_i ht
      cases z2 : B2 a with
      | none => simp only; rw [if_pos ht]; exact hb
      | some o5 =>
        simp only
        have := e3 a o5 z2
        rw [this] at hb
        exact hb
    · cases hb
theorem wipe_set {i : Nat} {x : Option V} {vs : List Nat} (h : i ∈ vs) : L2.wipe (σ.set i x) vs = L2.wipe σ vs :=
  wipe_same (by simp) fun j hj => by
    have : i ≠ j := fun z => hj (z ▸ h)
    rw [List.getElem?_set_ne this, wipe_get hj]
theorem wipe_wipe {vs : List Nat} : L2.wipe (L2.wipe σ vs) vs = L2.wipe σ vs :=
  wipe_same (wipe_length σ vs) fun j hj => rfl
end
/-- a block's target -/
def BTo (K : PySem.W.Frag) (g : TG) (vs : List Nat) (b : Bd) : Prop := ∀ (io : Option (Nat × V)) (B : Hp) (ps : List (V × D)) (ε ε' : En) (σ : L2.St) (H : Hp) (v : V) (d : D) (Q : L2.St → Hp → Prop), Ok K io B ps ε σ H → Rep K B v d → b d ε = some ε' → (∀ σ', Ok K io B ps ε' σ' H → L2.wipe σ' vs = L2.wipe σ vs → ε'.length = ε.length → Q σ' H) → g v σ H Q
structure BT (X : Cx) (tg : Expr) (g : TG) (vs : List Nat) (b : Bd) : Prop where
  pg : PG X tg g
  so : BTo X.K g vs b
def BTso (K : PySem.W.Frag) (g : TGs) (vs : List Nat) (b : Bds) : Prop := ∀ (io : Option (Nat × V)) (B : Hp) (ps : List (V × D)) (ε ε' : En) (σ : L2.St) (H : Hp) (us : List V) (ds : List D) (Q : L2.St → Hp → Prop), Ok K io B ps ε σ H → RepL K B us ds → b ds ε = some ε' → (∀ σ', Ok K io B ps ε' σ' H → L2.wipe σ' vs = L2.wipe σ vs → ε'.length = ε.length → Q σ' H) → g us σ H Q
structure BTs (X : Cx) (ts : List Expr) (g : TGs) (vs : List Nat) (b : Bds) : Prop where
  pg : PGs X ts g
  so : BTso X.K g vs b
section
variable {X : Cx} {vs : List Nat} {pos pos' : Pos}
theorem bt_name (i : Nat) {x : Str} (hN : X.N.Nodup) (hi : X.N[i]? = some x := by rfl) (hvs : i ∈ vs := by decide) (hx : Loc X.env.scope x := by first | exact Or.inl rfl | exact Or.inr rfl) (hf : X.fn x = true ∨ X.env.scope.names.lookup x = some .local := by first | exact .inl rfl | exact .inr rfl | assumption) :
    BT X (.Name x pos) (gName i) vs (bbName i) := by
  refine ⟨pg_name hN hi hx hf, fun io B ps ε ε' σ H v d Q o r q k => ?_⟩
  unfold bbName at q
  split at q
  · rename_i hn
    cases q
    split at k
    · rename_i hz
      have o' : Ok X.K io B ((v, d) :: ps) ε σ H := ⟨o.len, o.sm, o.own.frz (r.mono (smOf o.sm)) hz, o.has, o.bo, o.io1, o.io2⟩
      exact k _ (o'.put hn) (wipe_set hvs) (by simp)
    · exact k _ (o.putB r hn) (wipe_set hvs) (by simp)
  · cases q
theorem bts_nil : BTs X [] gNil vs bNil := by
  refine ⟨pgs_nil, fun io B ps ε ε' σ H vs ds Q o r q k => ?_⟩
  cases r with
  | nil => cases q; exact ⟨rfl, k σ o rfl rfl⟩
  | cons _ _ => cases q
theorem bts_cons {tg : Expr} {ts : List Expr} {g : TG} {gs : TGs} {b : Bd} {bs : Bds} (h1 : BT X tg g vs b) (h2 : BTs X ts gs vs bs) (hs : (assignEach (tg :: ts) X.env).map (·.2) = assign tg X.env :: (assignEach ts X.env).map (·.2) := by rfl) : BTs X (tg :: ts) (gCons g gs) vs (bCons b bs) := by
  refine ⟨pgs_cons h1.pg h2.pg hs, fun io B ps ε ε' σ H us ds Q o r q k => ?_⟩
  cases r with
  | nil => cases q
  | cons r rr =>
    obtain ⟨ε1, q1, q⟩ := bindSome q
    exact ⟨_, _, rfl, h1.so io B ps ε ε1 σ H _ _ _ o r q1 fun σ1 o1 w1 l1 => h2.so io B ps ε1 ε' σ1 H _ _ Q o1 rr q fun σ2 o2 w2 l2 => k σ2 o2 (w2.trans w1) (l2.trans l1)⟩
theorem bt_tup {K : PySem.W.Frag} {es : List Expr} {k : Nat} {g : TGs} {n : Nat} {bs : Bds} (h : BTs X es g vs bs) (hl : ∀ (ds : List D) (ε ε' : En), bs ds ε = some ε' → ds.length = n) (hc : X.calm = true := by rfl)
    (hn : (assignEach es X.env).length = n := by rfl) (hst : (assignEach es X.env).findIdx? (·.1) = none := by rfl) (hK : X.K = K := by rfl) : BT X (.Tuple es k pos) (gTup K n g) vs (bTup bs) := by
  subst hK
  refine ⟨pg_tup hc h.pg hn hst, fun io B ps ε ε' σ H v d Q o r q k => ?_⟩
  cases d with
  | tuple ds =>
    obtain ⟨a, xs, rfl, h1, r⟩ := r.openT
    exact ⟨a, xs, rfl, (smOf o.sm).sqt h1, by rw [r.length]; exact hl _ _ _ q, h.so io B ps ε ε' σ H xs ds Q o r q k⟩
  | _ => cases q
/-- a clause's tests -/
structure MTs (X : Cx) (ifs : List Expr) (t : TT) (f : En → Option (Bool × En)) : Prop where
  pt : PTs X ifs t
  so : MTo X.K t f
def mTrue : En → Option (Bool × En) := fun ε => some (true, ε)
theorem mts_nil : MTs X [] tYes mTrue := ⟨pts_nil, fun io B ps ε ε' σ H b Q o q k => by cases q; exact k B H (Same.refl B) o⟩
theorem mts_one {c : Expr} {t : TT} {f : En → Option (Bool × En)} (h : MT X c t f) : MTs X [c] t f := ⟨pts_one h.pt, h.so⟩
end
def compM (vs : List Nat) (b : Bd) (mt : En → Option (Bool × En)) (me : FM) : List D → En → Option (List D × En)
  | [], ε => some ([], ε)
  | d :: ds, ε => (b d ε).bind fun ε1 => (mt ε1).bind fun x => if x.1 then (me x.2).bind fun y => if y.2.length = ε.length then (compM vs b mt me ds (wipeE y.2 vs)).map fun z => (y.1 :: z.1, z.2) else none else if x.2.length = ε.length then compM vs b mt me ds (wipeE x.2 vs) else none
def mLc (vs : List Nat) (mi : En → Option (List D × En)) (b : Bd) (mt : En → Option (Bool × En)) (me : FM) : FM := fun ε => (mi ε).bind fun x => if wipeOk x.2 vs = true ∧ x.1.length ≤ cap then (compM vs b mt me x.1 (wipeE x.2 vs)).map fun y => (.list y.1, backE x.2 vs y.2) else none
theorem compM_len {vs : List Nat} {b : Bd} {mt : En → Option (Bool × En)} {me : FM} : ∀ {ds : List D} {ε : En} {r : List D × En}, compM vs b mt me ds ε = some r → r.2.length = ε.length
  | [], ε, r, h => by cases h; rfl
  | d :: ds, ε, r, h => by
    obtain ⟨ε1, _, h⟩ := bindSome h
    obtain ⟨x, _, h⟩ := bindSome h
    split at h
    · obtain ⟨y, _, h⟩ := bindSome h
      split at h
      · rename_i hl
        obtain ⟨z, hz, rfl⟩ := Option.map_eq_some_iff.mp h
        have := compM_len hz
        rw [wipeE_length] at this
        exact this.trans hl
      · cases h
    · split at h
      · rename_i hl
        have := compM_len h
        rw [wipeE_length] at this
        exact this.trans hl
      · cases h
theorem so_mlc {K : PySem.W.Frag} {wi : TI} {g : TG} {tt : TT} {te : TE} {vs : List Nat} {mi : En → Option (List D × En)} {b : Bd} {mt : En → Option (Bool × En)} {me : FM} (hi : MIo K wi mi) (hg : BTo K g vs b) (ht : MTo K tt mt) (he : MMo K te me) :
    MMo K (tLc wi g tt te vs) (mLc vs mi b mt me) := by
  intro io B ps ε ε' σ H d Q o q k
  obtain ⟨⟨ds, ε1⟩, q1, q⟩ := bindSome q
  split at q
  · rename_i hw
    obtain ⟨hw, hcap⟩ := hw
    obtain ⟨⟨out, ε2⟩, q2, q3⟩ := Option.map_eq_some_iff.mp q
    cases q3
    unfold wipeOk at hw
    rw [Bool.and_eq_true] at hw
    have nd : vs.Nodup := of_decide_eq_true hw.1
    refine hi io B ps ε ε1 σ H ds _ o q1 fun J B1 H1 s1 o1 ⟨G, Y, w, hG, hY⟩ => ?_
    obtain ⟨B2, s2, o2, bk⟩ := o1.prep vs hw.2
    have hio : ∀ i ∈ vs, ∀ v, io ≠ some (i, v) := fun i hi v z => by
      obtain ⟨_, d', h2⟩ := o2.io2 i v z
      have := List.all_eq_true.mp hw.2 i hi
      rw [h2] at this
      cases this
    have ow := o2.wipe hio
    intro Dd hD
    refine lc_it w (fun i H2 => ∃ (B3 : Hp) (εc : En) (done rest : List D), Same B2 B3 ∧ Ok K io B3 ((.ref Dd, .list done) :: ps) εc (L2.wipe σ vs) H2 ∧ done.length ≤ i ∧ εc.length = ε1.length ∧ compM vs b mt me (ds.drop i) εc = some (rest, ε2) ∧ out = done ++ rest) ?_ (fun i H2 _ ⟨B3, εc, done, rest, s3, o3, _⟩ => hG H2 (smOf (s2.trans (s3.trans o3.sm)))) ?_ ?_
    · refine ⟨B2, wipeE ε1 vs, [], out, Same.refl B2, ow.new (sameNew hD _) ⟨[Dd], .lst upd_same .nil, by simp, fun a ha => ?_⟩, Nat.le_refl _, wipeE_length _ _, by simpa using q2, rfl⟩
      rcases List.mem_cons.mp ha with rfl | ha
      · exact hD
      · cases ha
    · rintro i x H2 H3 hi' ⟨B3, εc, done, rest, s3, o3, hlen, hle, hrest, hout⟩ y
      obtain ⟨s4, d, hd, rd⟩ := hY i H2 x H3 (smOf (s2.trans (s3.trans o3.sm))) y
      have hdrop : ds.drop i = d :: ds.drop (i + 1) := by
        have h1 : i < ds.length := hi'
        rw [List.drop_eq_getElem_cons h1]
        rw [List.getElem?_eq_getElem h1] at hd
        cases hd; rfl
      rw [hdrop] at hrest
      obtain ⟨ε3, qb, hrest⟩ := bindSome hrest
      obtain ⟨⟨c, ε4⟩, qt, hrest⟩ := bindSome hrest
      have o4 := (o3.same s4).tups
      have sB := tov_grow (s2.trans s3) (o3.same s4).sm
      have sB2 : Same B3 (tov B3 H3) := tov_ge
      refine hg io _ _ εc ε3 _ H3 x d _ o4 (rd.mono (smOf sB)) qb fun σ2 o5 w5 l5 => ?_
      have w6 : L2.wipe σ2 vs = L2.wipe σ vs := w5.trans wipe_wipe
      refine ⟨w6, ?_⟩
      refine ht io _ _ ε3 ε4 σ2 H3 c _ o5 qt fun B4 H4 s6 o6 => ?_
      cases c with
      | true =>
        rw [if_pos rfl] at hrest ⊢
        obtain ⟨⟨yv, ε5⟩, qe, hrest⟩ := bindSome hrest
        split at hrest
        · rename_i hl5
          obtain ⟨⟨rest', ε6⟩, hrest', q7⟩ := Option.map_eq_some_iff.mp hrest
          cases q7
          refine he io B4 _ ε4 ε5 σ2 H4 yv _ o6 qe fun u B5 H5 s7 o7 => ?_
          obtain ⟨l, acc, e1, h1, h2, o8⟩ := o7.app
          cases e1
          have hlt : i < ds.length := hi'
          refine ⟨acc, h1, Nat.lt_of_le_of_lt (by rw [h2]; exact hlen) (Nat.lt_of_lt_of_le hlt (Nat.le_trans hcap (by unfold cap; decide))), ?_⟩
          have o9 := o8.wipe hio
          rw [w6] at o9
          exact ⟨B5, wipeE ε5 vs, done ++ [yv], rest', s3.trans (sB2.trans (s6.trans s7)), o9, by rw [List.length_append]; simp; omega, by rw [wipeE_length]; exact hl5.trans hle, hrest', by rw [hout, List.append_assoc]; rfl⟩
        · cases hrest
      | false =>
        rw [if_neg Bool.false_ne_true] at hrest ⊢
        split at hrest
        · rename_i hl5
          have o9 := o6.wipe hio
          rw [w6] at o9
          exact ⟨B4, wipeE ε4 vs, done, rest, s3.trans (sB2.trans s6), o9, by omega, by rw [wipeE_length]; exact hl5.trans hle, hrest, hout⟩
        · cases hrest
    · rintro H2 ⟨B3, εc, done, rest, s3, o3, hlen, hle, hrest, hout⟩
      rw [List.drop_length] at hrest
      cases hrest
      rw [List.append_nil] at hout
      subst hout
      exact k _ B3 H2 (s1.trans (s2.trans s3)) (Ok.unwipe nd o3 hle (bk.mono s3) hio)
  · cases q
section
variable {X : Cx} {elt tg iter : Expr} {ifs : List Expr} {scope : Scope} {pos spos : Pos} {wi : TI} {g : TG} {tt : TT} {te : TE} {mi : En → Option (List D × En)} {b : Bd} {mt : En → Option (Bool × En)} {me : FM}
theorem mm_lc {own : List (Str × Nat)} (hN : X.N.Nodup) (hi : MI X tg iter wi mi) (ok : BlkOk X.N X.env.scope scope own)
    (hg : ∀ (s : Shared) (H : Hp) (C : Addr) (cl : List (Str × Addr)) (fp : List Addr), BT (X.blk s H scope (compEnvC scope cl C X.env) fp) tg g (own.map (·.2)) b)
    (ht : ∀ (s : Shared) (H : Hp) (C : Addr) (cl : List (Str × Addr)) (fp : List Addr), MTs (X.blk s H scope (compEnvC scope cl C X.env) fp) ifs tt mt)
    (he : ∀ (s : Shared) (H : Hp) (C : Addr) (cl : List (Str × Addr)) (fp : List Addr), MM (X.blk s H scope (compEnvC scope cl C X.env) fp) elt te me)
    (hc : X.calm = true := by rfl) (hs : ∀ x, foldedSetIterable iter X.env x = pure x := by intro _; rfl) :
    MM X (.ListComp elt [⟨tg, iter, ifs, 0⟩] scope pos) (tLc wi g tt te (own.map (·.2))) (mLc (own.map (·.2)) mi b mt me) := by
  refine ⟨pe_lc hc hN hi.pi ok (fun s H C cl fp => (hg s H C cl fp).pg) (fun s H C cl fp => (ht s H C cl fp).pt) (fun s H C cl fp => (he s H C cl fp).pe) hs, ?_⟩
  exact so_mlc hi.so (hg {} (fun _ => none) (0 : Nat) [] []).so (ht {} (fun _ => none) (0 : Nat) [] []).so (he {} (fun _ => none) (0 : Nat) [] []).so
theorem ss_setLcM {i : Nat} {y : Str} {py : Pos} {own : List (Str × Nat)} (hN : X.N.Nodup) (hi : MI X tg iter wi mi) (ok : BlkOk X.N X.env.scope scope own)
    (hg : ∀ (s : Shared) (H : Hp) (C : Addr) (cl : List (Str × Addr)) (fp : List Addr), BT (X.blk s H scope (compEnvC scope cl C X.env) fp) tg g (own.map (·.2)) b)
    (ht : ∀ (s : Shared) (H : Hp) (C : Addr) (cl : List (Str × Addr)) (fp : List Addr), MTs (X.blk s H scope (compEnvC scope cl C X.env) fp) ifs tt mt)
    (he : ∀ (s : Shared) (H : Hp) (C : Addr) (cl : List (Str × Addr)) (fp : List Addr), MM (X.blk s H scope (compEnvC scope cl C X.env) fp) elt te me)
    (hsw : swapsWith (.ListComp elt [⟨tg, iter, ifs, 0⟩] scope pos) (some (.Name y py)) spos.line X.env = pure true) (hy : X.N[i]? = some y := by rfl) (hyl : X.env.scope.names.lookup y = some .local := by rfl) (hc : X.calm = true := by rfl) (hs : ∀ x, foldedSetIterable iter X.env x = pure x := by intro _; rfl) :
    SS X (.Assign [.Name y py] (.ListComp elt [⟨tg, iter, ifs, 0⟩] scope pos) spos) (tAsg (tLc wi g tt te (own.map (·.2))) (gName i)) (sSet i (mLc (own.map (·.2)) mi b mt me)) := by
  refine ⟨ps_setLc hc hN hy hyl hsw hi.pi ok (fun s H C cl fp => (hg s H C cl fp).pg) (fun s H C cl fp => (ht s H C cl fp).pt) (fun s H C cl fp => (he s H C cl fp).pe) hs, so_set ?_⟩
  exact so_mlc hi.so (hg {} (fun _ => none) (0 : Nat) [] []).so (ht {} (fun _ => none) (0 : Nat) [] []).so (he {} (fun _ => none) (0 : Nat) [] []).so
end
end Pd

set_option Elab.async false
set_option linter.all false
set_option maxRecDepth 100000
set_option maxHeartbeats 4000000
/-! Pd10: bodies of defs; star defs; dicts; a module's constants; tuple(range(a, b, c)). -/
namespace Pd
open PySem PySem.Spec PyProof.Rows L2
section
variable {K : PySem.W.Frag} {io : Option (Nat × V)} {B B' H H' : Hp} {ps : List (V × D)} {ε ε' : En} {σ : L2.St}
def toSl (d : D) : Slot := if frozen d then .ow d else .bo d
def envP (ds : List D) (m : Nat) : En := ds.map toSl ++ List.replicate m .no
def stP (vs : List V) (m : Nat) : L2.St := vs.map some ++ List.replicate m none
theorem slots_nil : ∀ m : Nat, slotsL (List.replicate m .no) (List.replicate m none) = []
  | 0 => rfl
  | m + 1 => by simp only [List.replicate_succ, slotsL, Slot.mine]; exact slots_nil m
theorem own_init {B : Hp} {m : Nat} : ∀ {vs : List V} {ds : List D}, RepL K H vs ds → Owns K H B (slotsL (envP ds m) (stP vs m))
  | _, _, .nil => by
    show Owns K H B (slotsL (List.replicate m .no) (List.replicate m none))
    rw [slots_nil]; exact Owns.nil
  | v :: vs, d :: ds, .cons r t => by
    have ih := own_init (m := m) (B := B) t
    show Owns K H B (slotsL (toSl d :: envP ds m) (some v :: stP vs m))
    unfold toSl
    split
    · rename_i hz
      exact ih.frz r hz
    · exact ih
theorem envP_len {vs : List V} {ds : List D} {m : Nat} (r : RepL K H vs ds) : (envP ds m).length = (stP vs m).length := by simp [envP, stP, r.length]
theorem envP_at {m : Nat} : ∀ {vs : List V} {ds : List D} {i : Nat} {s : Slot}, RepL K H vs ds → (envP ds m)[i]? = some s → s = .no ∨ ∃ v d, s = toSl d ∧ (stP vs m)[i]? = some (some v) ∧ Rep K H v d
  | _, _, i, s, .nil, h => by
    have h : (List.replicate m Slot.no)[i]? = some s := h
    rw [List.getElem?_replicate] at h
    split at h
    · cases h; exact .inl rfl
    · cases h
  | v :: vs, d :: ds, 0, s, .cons r t, h => by
    have h : some (toSl d) = some s := h
    cases h
    exact .inr ⟨v, d, rfl, rfl, r⟩
  | v :: vs, d :: ds, i + 1, s, .cons r t, h => envP_at (m := m) (i := i) t (by exact h)
theorem Ok.init {vs : List V} {ds : List D} {m : Nat} (r : RepL K H vs ds) : Ok K none H [] (envP ds m) (stP vs m) H := by
  refine ⟨envP_len r, Same.refl H, own_init r, fun i s d h hm => ?_, fun i d h => ?_, fun i d h => ?_, fun i v h => nomatch h⟩
  · rcases envP_at r h with rfl | ⟨v, d', rfl, hv, _⟩
    · cases hm
    · exact ⟨v, hv⟩
  · rcases envP_at r h with h | ⟨v, d', h, hv, r'⟩
    · cases h
    · unfold toSl at h
      split at h
      · cases h
      · cases h; exact ⟨v, hv, r'⟩
  · rcases envP_at r h with h | ⟨v, d', h, hv, r'⟩
    · cases h
    · unfold toSl at h
      split at h <;> cases h
end
def seP (d : D) : SE := ⟨fun _ => d = .none, fun d' _ => d' = d, fun _ => False, fun _ => False⟩
def seI (k : Nat) (r d' : D) : SE := ⟨fun ε => r = .none ∧ ε[k]? = some (.io d'), fun d0 ε => d0 = r ∧ ε[k]? = some (.io d'), fun _ => False, fun _ => False⟩
section
variable {P : Program} {w : World} {K : PySem.W.Frag} {mg : Str → Option Value} {base : Heap} {x qual y : Str} {st : Stmt} {f : Addr} {fd : FuncData} {N ps : List Str} {k : Nat}
/-- the body of a def that changes nothing -/
theorem fnP {g : List D → Option D} {sem : FS} (F : Fun K x qual st f fd) (S : FnScope N ps (defScope st)) (hb : Binds K fd ps []) (hm : mg y = some (.ref f))
    (body : ∀ (cdv : Value) (A : Around) (outer : List Env) (s : Shared) (H : Hp) (E : XK), Room k (A.deeper (envOfC qual (defScope st) s.heap.objs.size f cdv)) → ∃ t, SSs (cxOf CX0 P w K mg base N qual (defScope st) f cdv A outer s H E).nox (defBody st) t sem)
    (law : ∀ ds d, ds.length = ps.length → g ds = some d → sem (seP d) (envP ds (N.length - ps.length))) : FnD P w K mg base y (k + 1) (spP K ps.length g) := by
  have ok : FnOk P w K mg base CX0 (k + 1) f fd ps (spP K ps.length g) := by
    refine F.ok S (fun vs H Q E ⟨ds, d, r, hl, _⟩ => by rw [r.length]; exact hl) fun cdv A outer s H vs Q E hr ⟨ds, d, r, hl, hg, k⟩ => ?_
    obtain ⟨t, hs⟩ := body cdv A outer s H E hr
    refine ⟨t, hs.ps, ?_⟩
    have o := Ok.init (m := N.length - ps.length) r
    have e : L2.start N vs = stP vs (N.length - ps.length) := by
      unfold L2.start stP
      rw [r.length, hl]
    rw [e]
    refine hs.so none H _ _ H (seP d) _ o ⟨?_, ?_, ?_, ?_⟩ (law ds d hl hg)
    · intro B' ε σ H' e o' q
      have q : d = .none := q
      subst q
      exact k .non H' (e.trans o'.sm) (newNon.back (e.trans o'.sm))
    · intro B' v d' ε σ H' e o' q
      have q : d' = d := q
      subst q
      obtain ⟨fp, rp, nd, hf⟩ := o'.own
      refine k v H' (e.trans o'.sm) ?_
      cases rp with
      | @cons _ _ _ f g r _ =>
        exact ⟨f, r, (List.nodup_append.mp nd).1, fun a ha => Sm.free e (hf a (List.mem_append_left _ ha))⟩
    · intro B' ε σ H' e o' q; exact q.elim
    · intro B' ε σ H' e o' q; exact q.elim
  refine ⟨f, fun A outer s H us vs Q E hr e0 r hs => ?_, hm, F.kp⟩
  have z := ok.raw hb .nil A outer s H us vs Q E hr e0 r (by show _ ; simp only [List.append_nil]; exact hs)
  exact z
/-- the start of a body that changes its k-th argument -/
def envI (dpre : List D) (d : D) (dpost : List D) (m : Nat) : En := dpre.map toSl ++ .io d :: envP dpost m
def stI (pre : List V) (v : V) (post : List V) (m : Nat) : L2.St := pre.map some ++ some v :: stP post m
theorem initI {H : Hp} {v : V} {d : D} {fp : List Addr} {post : List V} {dpost : List D} {m : Nat} (rv : Rp K H v d fp) (nd : fp.Nodup) (r2 : RepL K (fun b => if b ∈ fp then none else H b) post dpost) : ∀ {pre : List V} {dpre : List D}, RepL K (fun b => if b ∈ fp then none else H b) pre dpre →
    Ok K (some (pre.length, v)) (fun b => if b ∈ fp then none else H b) [] (envI dpre d dpost m) (stI pre v post m) H
  | _, _, .nil => by
    have sm : Same (fun b => if b ∈ fp then none else H b) H := fun a ob q => by
      have q : (if a ∈ fp then none else H a) = some ob := q
      split at q
      · cases q
      · exact q
    have o := Ok.init (m := m) r2
    refine ⟨by simpa [envI, stI] using o.len, sm, ?_, fun i s e h hm => ?_, fun i e h => ?_, fun i e h => ?_, fun i u h => ?_⟩
    · have ow := own_init (K := K) (H := H) (B := fun b => if b ∈ fp then none else H b) (m := m) (r2.mono (smOf sm))
      have own0 : slotsL (envP dpost m) (stP post m) = slotsL (envP dpost m) (stP post m) := rfl
      show Owns K H _ ((v, d) :: slotsL (envP dpost m) (stP post m))
      have fz : ∀ {vs : List V} {ds : List D}, RepL K H vs ds → RpP K H (slotsL (envP ds m) (stP vs m)) [] := by
        intro vs ds r
        induction ds generalizing vs with
        | nil =>
          cases r
          show RpP K H (slotsL (List.replicate m .no) (List.replicate m none)) []
          rw [slots_nil]; exact .nil
        | cons d ds ih =>
          cases r with
          | cons r t =>
            show RpP K H (slotsL (toSl d :: envP ds m) (some _ :: stP _ m)) []
            unfold toSl
            split
            · rename_i hz
              exact RpP.cons (g := []) (r.frz hz) (ih t)
            · exact ih t
      refine ⟨fp ++ [], .cons rv (fz (r2.mono (smOf sm))), by simpa using nd, fun a ha => ?_⟩
      rw [List.append_nil] at ha
      show (if a ∈ fp then none else H a) = none
      rw [if_pos ha]
    · cases i with
      | zero => exact ⟨v, rfl⟩
      | succ i => exact o.has i s e h hm
    · cases i with
      | zero => cases h
      | succ i => exact o.bo i e h
    · cases i with
      | zero => exact ⟨v, rfl⟩
      | succ i =>
        obtain ⟨u, z⟩ := o.io1 i e h
        cases z
    · cases h
      exact ⟨rfl, d, rfl⟩
  | u :: pre, e :: dpre, .cons r t => by
    have o := initI rv nd r2 (m := m) t
    have hz0 : ∀ s : Slot, s = toSl e → Ok K (some (pre.length + 1, v)) (fun b => if b ∈ fp then none else H b) [] (s :: envI dpre d dpost m) (some u :: stI pre v post m) H := by
      intro s hs
      refine ⟨by simpa using o.len, o.sm, ?_, fun i s' e' h hm => ?_, fun i e' h => ?_, fun i e' h => ?_, fun i u' h => ?_⟩
      · have ow := o.own
        unfold toSl at hs
        split at hs
        · rename_i hz
          subst hs
          exact ow.frz (r.mono (smOf o.sm)) hz
        · subst hs
          exact ow
      · cases i with
        | zero => exact ⟨u, rfl⟩
        | succ i => exact o.has i s' e' h hm
      · cases i with
        | zero =>
          have h : some s = some (.bo e') := h
          cases h
          unfold toSl at hs
          split at hs
          · cases hs
          · cases hs; exact ⟨u, rfl, r⟩
        | succ i => exact o.bo i e' h
      · cases i with
        | zero =>
          have h : some s = some (.io e') := h
          cases h
          unfold toSl at hs
          split at hs <;> cases hs
        | succ i =>
          obtain ⟨u', z⟩ := o.io1 i e' h
          cases z
          exact ⟨_, rfl⟩
      · cases h
        exact o.io2 pre.length v rfl
    exact hz0 (toSl e) rfl
theorem fnI {g : List D → Option (D × D)} {sem : FS} (kk : Nat) (F : Fun K x qual st f fd) (S : FnScope N ps (defScope st)) (hb : Binds K fd ps []) (hm : mg y = some (.ref f))
    (body : ∀ (cdv : Value) (A : Around) (outer : List Env) (s : Shared) (H : Hp) (E : XK), Room k (A.deeper (envOfC qual (defScope st) s.heap.objs.size f cdv)) → ∃ t, SSs (cxOf CX0 P w K mg base N qual (defScope st) f cdv A outer s H E).nox (defBody st) t sem)
    (law : ∀ dpre d dpost r d', dpre.length = kk → dpre.length + 1 + dpost.length = ps.length → g (dpre ++ d :: dpost) = some (r, d') → sem (seI kk r d') (envI dpre d dpost (N.length - ps.length))) : FnD P w K mg base y (k + 1) (spI K ps.length kk g) := by
  have ok : FnOk P w K mg base CX0 (k + 1) f fd ps (spI K ps.length kk g) := by
    refine F.ok S (fun vs H Q E ⟨pre, post, dpre, dpost, v, d, r, d', fp, Hm, e, hl, hn, _⟩ => by rw [e, ← hn]; simp; omega) fun cdv A outer s H vs Q E hr ⟨pre, post, dpre, dpost, v, d, r, d', fp, Hm, e, hl, hn, rv, nd, eH, r1, r2, hg, k⟩ => ?_
    subst e eH
    obtain ⟨t, hs⟩ := body cdv A outer s H E hr
    refine ⟨t, hs.ps, ?_⟩
    have o := initI (m := N.length - ps.length) rv nd r2 r1
    have e : L2.start N (pre ++ v :: post) = stI pre v post (N.length - ps.length) := by
      unfold L2.start stI stP
      rw [List.map_append, List.map_cons, List.append_assoc]
      have : (pre ++ v :: post).length = ps.length := by simp; omega
      rw [this]
      rfl
    rw [e]
    rw [hl] at o
    have hd1 := r1.length
    have hd2 := r2.length
    refine hs.so _ _ _ _ H (seI kk r d') _ o ⟨?_, ?_, ?_, ?_⟩ (law dpre d dpost r d' (by omega) (by omega) hg)
    · intro B' ε σ H' e o' q
      obtain ⟨q1, q2⟩ := (show r = .none ∧ ε[kk]? = some (.io d') from q)
      subst q1
      refine k .non H' (e.trans o'.sm) ?_
      obtain ⟨hv, _⟩ := o'.io2 kk v rfl
      have pm := slots_out q2 rfl hv (s' := .no) rfl
      have ow := (o'.own.perm (L' := (v, d') :: slotsL (ε.set kk .no) σ) pm.symm).sub (L' := [(v, d')]) (by simp)
      exact (ow.frz .non rfl).base e
    · intro B' u d0 ε σ H' e o' q
      obtain ⟨q1, q2⟩ := (show d0 = r ∧ ε[kk]? = some (.io d') from q)
      subst q1
      refine k u H' (e.trans o'.sm) ?_
      obtain ⟨hv, _⟩ := o'.io2 kk v rfl
      have pm := slots_out q2 rfl hv (s' := .no) rfl
      have ow := (o'.own.perm (L' := (u, d0) :: (v, d') :: slotsL (ε.set kk .no) σ) (pm.symm.cons _)).sub (L' := [(u, d0), (v, d')]) (by simp)
      exact ow.base e
    · intro B' ε σ H' e o' q; exact q.elim
    · intro B' ε σ H' e o' q; exact q.elim
  refine ⟨f, fun A outer s H us vs Q E hr e0 r hs => ?_, hm, F.kp⟩
  exact ok.raw hb .nil A outer s H us vs Q E hr e0 r (by show _ ; simp only [List.append_nil]; exact hs)
/-- def f(*v) -/
def gStar (g : D → Option D) : List D → Option D
  | [.tuple ds] => g (.tuple ds)
  | _ => none
theorem cxUp0 : StX.CXUp CX0 := fun _ _ _ _ _ _ _ _ _ _ _ z => z
theorem fnS {g : D → Option D} {sem : FS} {pv : Str} {n : Nat} (hn : n ≤ 1000) (F : Fun K x qual st f fd) (S : FnScope N [pv] (defScope st)) (hm : mg y = some (.ref f))
    (hb : ∀ (dV kV doc pm cdv ct : Value) (an : Option Addr) (us rest : List Value), us.length = ([] : List Str).length → bindArgs (PySem.W.fnOf x qual (defArgs st) (defBody st) (defScope st) .none kV doc pm an cdv ct) ⟨us ++ rest, []⟩ = (newTuple rest >>= fun t => pure (([] : List Str).zip us ++ [(pv, t)])))
    (body : ∀ (cdv : Value) (A : Around) (outer : List Env) (s : Shared) (H : Hp) (E : XK), Room k (A.deeper (envOfC qual (defScope st) s.heap.objs.size f cdv)) → ∃ t, SSs (cxOf CX0 P w K mg base N qual (defScope st) f cdv A outer s H E) (defBody st) t sem)
    (law : ∀ ds d, g (.tuple ds) = some d → sem (seP d) (envP [.tuple ds] (N.length - 1))) : FnD P w K mg base y (k + 1) (spP K n fun ds => g (.tuple ds)) := by
  obtain ⟨oc, od, kV, doc, pm, an, cdv, ct, osl, efd, lk, hcd⟩ := F.ex
  subst efd
  have run := StX.fn_star (P := P) (w := w) (K := K) (mg := mg) (base := base) (CX := CX0) (k := k) (ps := []) (pv := pv) (sp := spP K 1 (gStar g)) lk hcd S cxUp0 (hb .none kV doc pm cdv ct an) (fun A outer s H vs Q E hr ⟨ds, d, r, hl, hg, k⟩ => ?_)
  · refine ⟨f, run.imp fun vs H Q E ⟨ds, d, r, hl, hg, k⟩ => ?_, hm, F.kp⟩
    refine ⟨[], vs, rfl, rfl, by rw [r.length, hl]; exact small1000' hn, fun p hp => ⟨[.tuple ds], d, ?_, rfl, hg, fun v H' s nw => k v H' ((sameNew hp _).trans s) (nw.back (sameNew hp _))⟩⟩
    exact .cons (.tup (.inl (.inl upd_same)) (r.mono (smOf (sameNew hp _)))) .nil
  · obtain ⟨t, hs⟩ := body cdv A outer s H E hr
    refine ⟨t, hs.ps, ?_⟩
    obtain ⟨ds', rfl, hg⟩ : ∃ ds', ds = [.tuple ds'] ∧ g (.tuple ds') = some d := by
      unfold gStar at hg
      split at hg
      · exact ⟨_, rfl, hg⟩
      · cases hg
    have o := Ok.init (m := N.length - 1) r
    have e : L2.start N vs = stP vs (N.length - 1) := by
      unfold L2.start stP
      rw [r.length] <;> rfl
    rw [e]
    refine hs.so none H _ _ H (seP d) _ o ⟨?_, ?_, ?_, ?_⟩ (law ds' d hg)
    · intro B' ε σ H' e o' q
      have q : d = .none := q
      subst q
      exact k .non H' (e.trans o'.sm) (newNon.back (e.trans o'.sm))
    · intro B' v d' ε σ H' e o' q
      have q : d' = d := q
      subst q
      obtain ⟨fp, rp, nd, hf⟩ := o'.own
      refine k v H' (e.trans o'.sm) ?_
      cases rp with
      | @cons _ _ _ f g r _ =>
        exact ⟨f, r, (List.nodup_append.mp nd).1, fun a ha => Sm.free e (hf a (List.mem_append_left _ ha))⟩
    · intro B' ε σ H' e o' q; exact q.elim
    · intro B' ε σ H' e o' q; exact q.elim
end
end Pd

set_option Elab.async false
set_option linter.all false
set_option maxRecDepth 100000
set_option maxHeartbeats 4000000
/-! Pd11: tuple(range(a, b, c)); a module's whole numbers; dicts with whole numbers or texts as keys. -/
namespace Pd
open PySem PySem.Spec PyProof.Rows L2
def rgV3 (a c : Int) (n : Nat) : List V := (List.range n).map fun i => V.int (a + (i : Nat) * c)
theorem rep_rgC {K : PySem.W.Frag} {H : Hp} (a c : Int) (n : Nat) : RepL K H (rgV3 a c n) (rgC a c n) := by
  unfold rgV3 rgC
  generalize List.range n = L
  induction L with
  | nil => exact .nil
  | cons i L ih => exact .cons (.int _) ih
theorem frz_rgC (a c : Int) (n : Nat) : frozenL (rgC a c n) = true := by
  unfold rgC
  generalize List.range n = L
  induction L with
  | nil => rfl
  | cons i L ih => simp only [List.map_cons, frozenL, frozen, ih] <;> rfl
def tTrg3 (ta : TA) : TE := fun σ H Q => ta σ H fun vs H1 => ∃ (i j c : Int) (n : Nat), vs = [.int i, .int j, .int c] ∧ RgC i j c n ∧ n ≤ 2 ^ 24 ∧ ∀ q, H1 q = none → Q (.ref q) (upd H1 q (.tup (rgV3 i c n)))
noncomputable def gTrg3 : List D → Option D
  | [.int i, .int j, .int c] => if rg3Ok i j c && decide ((Builtin.Range.rangeSize i j c).toNat ≤ 1000000) then some (.tuple (rgC i c (Builtin.Range.rangeSize i j c).toNat)) else none
  | _ => none
section
variable {X : Cx} {a b c e : Expr} {es : List Expr} {t : TA} {fs : En → Option (List D)} {p p2 pos pos2 px py : Pos} {x : Str}
theorem pe_trg3 (hc : X.calm = true) (hgt : Gl X "tuple") (hmt : X.mg "tuple" = none) (hg : Gl X "range") (hm : X.mg "range" = none) (ha : PA X [a, b, c] t)
    (hs : starEach [a, b, c] X.env = (false, eval a X.env) :: starEach [b, c] X.env) (hpl : (backTo pos2 (starEach [b, c] X.env)).any (·.1) = false)
    (na : starEach [.Call (.Name "range" p2) [a, b, c] [] pos2] X.env = (false, eval (.Call (.Name "range" p2) [a, b, c] [] pos2) X.env) :: starEach [] X.env) :
    PE X (.Call (.Name "tuple" p) [.Call (.Name "range" p2) [a, b, c] [] pos2] [] pos) (tTrg3 t) := by
  constructor
  intro pins s σ H Q I h
  refine Call_ (ld_blt I hgt hmt boot_tuple ?_)
  refine PyProof.Rows.callWith_type1 (args_cons ?_ na) na
  refine Call_ (ld_blt I hg hm boot_range ?_)
  refine PyProof.Rows.callWith_type1 ?_ hs hpl
  apply thn (ha.run pos2 pins s σ H _ I h)
  intro us s1 h1
  obtain ⟨vs, H1, I1, r1, i, j, k, n, ev, ⟨c0, c1, c2, c3⟩, hn, q⟩ := h1
  subst ev
  cases r1 with
  | cons ra r1 =>
    cases r1 with
    | cons rb r1 =>
      cases r1 with
      | cons rc r1 =>
        cases r1
        obtain ⟨t1, rfl⟩ := ra
        obtain ⟨t2, rfl⟩ := rb
        obtain ⟨t3, rfl⟩ := rc
        refine call_range_3 c0 ?_ (.inl (PyProof.noPylong_small c1))
        apply args_nil
        have J : Inv X pins σ H1 { s1 with heap := s1.heap.push { cls := .type "range", data := .fields #[.int i t1, .int j t2, .int k t3] } } := I1.kept (t' := s1.toks) fun b o e => Heap.get?_push_of_some _ e
        refine call_tuple_range (n := n) (J.ok.hd hc) (IsRange.new ..) c2 c3 hn fun h' tk acc hk hi => ?_
        have J2 := J.kept (t' := tk) hk
        have rel : Vals (rgV3 i k n) acc.toList := by
          have el : acc.toList.length = n := by rw [Array.length_toList]; exact hi.1
          unfold rgV3
          rw [← el]
          refine vals_of_get acc.toList _ fun j u hj => ?_
          exact hi.2 j u (by rw [← hj, Array.getElem?_toList])
        have sz : (rgV3 i k n).length ≤ sizeLine := by unfold rgV3; rw [List.length_map, List.length_range, sizeLine_eq]; omega
        refine ⟨.ref h'.objs.size, upd H1 h'.objs.size (.tup (rgV3 i k n)), J2.laid (t' := tk) (fun c o e => Heap.get?_push_of_some _ e) (Nat.le_refl _) ?_, rfl, q _ (J2.hok.fresh (Nat.le_refl _))⟩
        show ObjOk X.prog X.w _ _ _ (.tup (rgV3 i k n))
        refine ⟨sz, acc.toList, rel, ?_⟩
        rw [Array.toArray_toList]
        exact IsTup.new _ _
theorem pf_trg3 (hmt : X.mg "tuple" = none) (hm : X.mg "range" = none) (ha : PAr X [a, b, c] t fs) (hc : X.calm = true := by rfl) (hgt : Gl X "tuple" := by rfl) (hg : Gl X "range" := by rfl)
    (hs : starEach [a, b, c] X.env = (false, eval a X.env) :: starEach [b, c] X.env := by rfl) (hpl : (backTo pos2 (starEach [b, c] X.env)).any (·.1) = false := by rfl)
    (na : starEach [.Call (.Name "range" p2) [a, b, c] [] pos2] X.env = (false, eval (.Call (.Name "range" p2) [a, b, c] [] pos2) X.env) :: starEach [] X.env := by rfl) :
    PF X (.Call (.Name "tuple" p) [.Call (.Name "range" p2) [a, b, c] [] pos2] [] pos) (tTrg3 t) (eCall gTrg3 fs) := by
  refine ⟨pe_trg3 hc hgt hmt hg hm ha.pa hs hpl na, fun ε σ H d Q o q k => ?_⟩
  obtain ⟨ds, q1, q⟩ := bindSome q
  unfold gTrg3 at q
  split at q
  · rename_i i j c
    split at q
    · rename_i hh
      cases q
      rw [Bool.and_eq_true] at hh
      obtain ⟨h1, h2⟩ := hh
      have h2 := of_decide_eq_true h2
      simp only [rg3Ok, Bool.and_eq_true, decide_eq_true_eq] at h1
      refine ha.so ε σ H _ _ o q1 fun vs H1 s1 r1 => ?_
      cases r1 with
      | cons ra r1 =>
        cases r1 with
        | cons rb r1 =>
          cases r1 with
          | cons rc r1 =>
            cases r1
            cases ra
            cases rb
            cases rc
            refine ⟨i, j, c, _, rfl, ⟨h1.1.1.1.1.2, by omega, h1.1.2, h1.2⟩, by omega, fun p hp => k _ _ (s1.trans (sameNew hp _)) (New.tup (NewL.frz (rep_rgC _ _ _) (frz_rgC _ _ _)) hp)⟩
    · cases q
  · cases q

/-! a module's own whole number -/
theorem pf_glob {i : Int} {tk : Tok} (hm : X.mg x = some (.int i tk)) (hg : Gl X x := by rfl) (hd : (x == ("__debug__" : Str)) = false := by decide) : PF X (.Name x pos) (tC (.int i)) (eC (.int i)) :=
  ⟨pe_glob hg hm ⟨tk, rfl⟩ hd, fun ε σ H d Q o q k => by cases q; exact k _ H (Same.refl H) newInt⟩

/-! ### dicts -/
def isKey : D → Bool
  | .int _ => true
  | .str _ => true
  | _ => false
def keq : D → D → Bool
  | .int i, .int j => decide (i = j)
  | .str a, .str b => decide (a = b)
  | _, _ => false
def putD (es : List (D × D)) (k y : D) : List (D × D) := if (es.any fun p => keq p.1 k) = true then es.map (fun p => if keq p.1 k = true then (p.1, y) else p) else es ++ [(k, y)]
def valD (es : List (D × D)) (k : D) : Option D := (es.find? fun p => keq p.1 k).map (·.2)
theorem keq_k (a b : Key) : keq (kD a) (kD b) = decide (a = b) := by
  cases a <;> cases b <;> simp [kD, keq]
theorem isKey_k (a : Key) : isKey (kD a) = true := by cases a <;> rfl
theorem isKey_of {d : D} (h : isKey d = true) : ∃ k : Key, d = kD k := by
  cases d with
  | int i => exact ⟨.inl i, rfl⟩
  | str s => exact ⟨.inr s, rfl⟩
  | _ => cases h
inductive DR (K : PySem.W.Frag) (H : Hp) : List (Key × V) → List (D × D) → Prop
  | nil : DR K H [] []
  | cons {k : Key} {v : V} {d : D} {t : List (Key × V)} {es : List (D × D)} : Rep K H v d → DR K H t es → DR K H ((k, v) :: t) ((kD k, d) :: es)
theorem DR.of {K : PySem.W.Frag} {H : Hp} : ∀ {kvs : List (Key × V)} {ds : List D}, RepL K H (kvs.map fun p => p.2) ds → DR K H kvs ((kvs.map fun p => kD p.1).zip ds)
  | [], _, .nil => .nil
  | _ :: _, _ :: _, .cons r t => .cons r (DR.of t)
theorem DR.to {K : PySem.W.Frag} {H : Hp} {kvs : List (Key × V)} {es : List (D × D)} (r : DR K H kvs es) : RepL K H (kvs.map fun p => p.2) (es.map fun p => p.2) ∧ es = (kvs.map fun p => kD p.1).zip (es.map fun p => p.2) := by
  induction r with
  | nil => exact ⟨.nil, rfl⟩
  | cons r _ ih => exact ⟨.cons r ih.1, by simp only [List.map_cons, List.zip_cons_cons]; rw [← ih.2]⟩
theorem DR.len {K : PySem.W.Frag} {H : Hp} {kvs : List (Key × V)} {es : List (D × D)} (r : DR K H kvs es) : kvs.length = es.length := by
  induction r with
  | nil => rfl
  | cons _ _ ih => simp [ih]
theorem DR.any {K : PySem.W.Frag} {H : Hp} {kvs : List (Key × V)} {es : List (D × D)} (r : DR K H kvs es) (k : Key) : (kvs.any fun kv => decide (kv.1 = k)) = (es.any fun p => keq p.1 (kD k)) := by
  induction r with
  | nil => rfl
  | cons _ _ ih => simp only [List.any_cons, keq_k, ih]
theorem DR.app {K : PySem.W.Frag} {H : Hp} {kvs : List (Key × V)} {es : List (D × D)} {k : Key} {v : V} {d : D} (r : DR K H kvs es) (rv : Rep K H v d) : DR K H (kvs ++ [(k, v)]) (es ++ [(kD k, d)]) := by
  induction r with
  | nil => exact .cons rv .nil
  | cons r _ ih => exact .cons r ih
theorem DR.map {K : PySem.W.Frag} {H : Hp} {kvs : List (Key × V)} {es : List (D × D)} {k : Key} {v : V} {d : D} (r : DR K H kvs es) (rv : Rep K H v d) : DR K H (kvs.map (fun kv => if kv.1 = k then (kv.1, v) else kv)) (es.map (fun p => if keq p.1 (kD k) = true then (p.1, d) else p)) := by
  induction r with
  | nil => exact .nil
  | @cons k' v' d' t es r _ ih =>
    simp only [List.map_cons, keq_k]
    by_cases hk : k' = k
    · rw [if_pos hk, if_pos (by simpa using hk)]
      exact .cons rv ih
    · rw [if_neg hk, if_neg (by simpa using hk)]
      exact .cons r ih
theorem DR.put {K : PySem.W.Frag} {H : Hp} {kvs : List (Key × V)} {es : List (D × D)} {k : Key} {v : V} {d : D} (r : DR K H kvs es) (rv : Rep K H v d) : DR K H (putK kvs k v) (putD es (kD k) d) := by
  unfold putK putD
  rw [r.any k]
  split
  · exact r.map rv
  · exact r.app rv
theorem DR.val {K : PySem.W.Frag} {H : Hp} {kvs : List (Key × V)} {es : List (D × D)} {k : Key} (r : DR K H kvs es) : (valV kvs k = none ∧ valD es (kD k) = none) ∨ ∃ v d, valV kvs k = some v ∧ valD es (kD k) = some d ∧ Rep K H v d := by
  unfold valV valD
  induction r with
  | nil => exact .inl ⟨rfl, rfl⟩
  | @cons k' v' d' t es r _ ih =>
    simp only [List.find?_cons, keq_k]
    by_cases hk : k' = k
    · simp only [hk, decide_true]
      exact .inr ⟨v', d', rfl, rfl, r⟩
    · simp only [hk, decide_false]
      exact ih
theorem DR.keys {K : PySem.W.Frag} {H : Hp} {kvs : List (Key × V)} {es : List (D × D)} (r : DR K H kvs es) : RepL K H (kvs.map fun kv => kV kv.1) (es.map fun p => p.1) := by
  induction r with
  | nil => exact .nil
  | @cons k' v' d' t es r _ ih =>
    have h : Rep K H (kV k') (kD k') := by
      cases k' with
      | inl i => exact Rep.int i
      | inr x => exact Rep.str x
    exact .cons h ih
/-- not the mark of a dict with tuples as keys -/
def plainD (es : List (D × D)) : Bool := es.all fun p => isKey p.1
theorem dicK {K : PySem.W.Frag} {H : Hp} {u : HO} {ks : List D} {xs : List V} {ds : List D} {es : List (D × D)} (q : DicV u ks xs) (r : RepL K H xs ds) (e : es = ks.zip ds) (h : plainD es = true) : ∃ kvs : List (Key × V), u = .dK kvs ∧ DR K H kvs es := by
  cases q with
  | k kvs => exact ⟨kvs, rfl, by rw [e]; exact DR.of r⟩
  | t kvs =>
    cases r with
    | cons r t =>
      subst e
      exact absurd h (by simp [plainD, isKey])
theorem newDic {K : PySem.W.Frag} {H : Hp} {p : Addr} (h : H p = none) : New K H (upd H p (.dK [])) (.ref p) (.dict []) := by
  refine ⟨[p], .dic upd_same (.k []) .nil rfl, by simp, fun a ha => ?_⟩
  obtain rfl := List.mem_singleton.mp ha
  exact h
theorem pf_dnew : PF X (.Dict [] [] pos) tDNewK (eC (.dict [])) := ⟨pe_dnewK, fun ε σ H d Q o q k => by
  cases q
  exact fun p hp => k _ _ (sameNew hp _) (newDic hp)⟩
/-- d[k] = v: the value, then the dict, then the key -/
def gPut (x k y : D) : Option D := match x with
  | .dict es => if (plainD es && isKey k && frozen y && frozenL (es.map fun p => p.2) && decide (es.length ≤ cap)) = true then some (.dict (putD es k y)) else none
  | _ => none
def sDput (i : Nat) (fk : FE) (m : FM) : FS := fun S ε => onSome (m ε) fun y => onSome (fk y.2) fun k => onSome (mineAt y.2 i) fun x => onSome (gPut x k y.1) fun w => S.nx (setMine y.2 i w)
theorem frzDic {K : PySem.W.Frag} {H B : Hp} {L : List (V × D)} {v : V} {es : List (D × D)} (o : Owns K H B ((v, .dict es) :: L)) (hp : plainD es = true) : ∃ a kvs, v = .ref a ∧ H a = some (.dK kvs) ∧ B a = none ∧ DR K H kvs es := by
  obtain ⟨fp, r, nd, f⟩ := o
  cases r with
  | cons r t =>
    cases r with
    | dic h q r e =>
      obtain ⟨kvs, rfl, dr⟩ := dicK q r.rep e hp
      exact ⟨_, kvs, rfl, h, f _ List.mem_cons_self, dr⟩
theorem putDic {K : PySem.W.Frag} {H B : Hp} {L : List (V × D)} {a : Addr} {u : V} {es : List (D × D)} {k : Key} {y : D} {kvs : List (Key × V)} (o : Owns K H B ((.ref a, .dict es) :: L)) (hH : H a = some (.dK kvs)) (dr : DR K H kvs es) (rv : Rep K H u y) (hy : frozen y = true) (hf : frozenL (es.map fun p => p.2) = true) :
    Owns K (upd H a (.dK (putK kvs k u))) B ((.ref a, .dict (putD es (kD k) y)) :: L) := by
  obtain ⟨fp, r, nd, f⟩ := o
  cases r with
  | @cons _ _ _ f1 g1 r t =>
    have ha : a ∈ f1 := by cases r with | dic => exact List.mem_cons_self
    have hna : ∀ b ∈ g1, b ≠ a := fun b hb z => (List.nodup_append.mp nd).2.2 a ha b hb z.symm
    have tk : ∀ b xs, SqT K H b xs → SqT K (upd H a (.dK (putK kvs k u))) b xs := fun b xs hx => by
      rcases hx with hx | hx
      · have nb : b ≠ a := by
          rintro rfl
          rcases hx with hx | ⟨o, hx⟩ <;> (rw [hH] at hx; cases hx)
        refine .inl ?_
        rcases hx with hx | ⟨o, hx⟩
        · exact .inl (by rw [upd_ne nb]; exact hx)
        · exact .inr ⟨o, by rw [upd_ne nb]; exact hx⟩
      · exact .inr hx
    have t2 := t.keep tk fun b hb => upd_ne (hna b hb)
    have dr2 := dr.put (k := k) rv
    obtain ⟨p1, p2⟩ := dr2.to
    have hz : frozenL ((putD es (kD k) y).map fun p => p.2) = true := by
      rw [frozenL_all, List.all_eq_true] at hf ⊢
      intro x hx
      obtain ⟨q, hq, rfl⟩ := List.mem_map.mp hx
      unfold putD at hq
      split at hq
      · obtain ⟨z, hz, rfl⟩ := List.mem_map.mp hq
        split
        · exact hy
        · exact hf _ (List.mem_map.mpr ⟨z, hz, rfl⟩)
      · rcases List.mem_append.mp hq with hq | hq
        · exact hf _ (List.mem_map.mpr ⟨q, hq, rfl⟩)
        · obtain rfl := List.mem_singleton.mp hq
          exact hy
    have p3 : RpL K (upd H a (.dK (putK kvs k u))) ((putK kvs k u).map fun p => p.2) ((putD es (kD k) y).map fun p => p.2) [] := (p1.frz hz).keep tk fun b hb => nomatch hb
    refine ⟨[a] ++ g1, .cons (.dic upd_same (.k _) p3 p2) t2, ?_, fun b hb => ?_⟩
    · exact List.nodup_append.mpr ⟨by simp, (List.nodup_append.mp nd).2.1, fun b hb c hc z => by
        obtain rfl := List.mem_singleton.mp hb
        exact hna c hc z.symm⟩
    · rcases List.mem_append.mp hb with hb | hb
      · obtain rfl := List.mem_singleton.mp hb
        exact f _ (List.mem_append_left _ ha)
      · exact f b (List.mem_append_right _ hb)
theorem ss_dput {i : Nat} {x : Str} {ie ve : Expr} {ti tv : TE} {f : FE} {m : FM} (hu : X.A.units + 1 < cLine) (hk : PP X ie ti f) (hv : MM X ve tv m) (hN : X.N[i]? = some x := by rfl) (hvis : Vis X.env.scope x := by first | exact Or.inl rfl | exact Or.inr (Or.inl rfl) | exact Or.inr (Or.inr rfl)) (hd : (x == ("__debug__" : Str)) = false := by decide) (hcd : (x == ("__classdict__" : Str)) = false := by decide)
    (hs : swapsWith ve (some (.Subscript (.Name x px) ie py)) pos.line X.env = pure false := by rfl) :
    SS X (.Assign [.Subscript (.Name x px) ie py] ve pos) (sDPut (tVar i) ti tv) (sDput i f m) := by
  refine ⟨ps_dput hu (pe_var hN hvis hd hcd) hk.pe hv.pe hs, fun io B ε σ H S D' o re h => ?_⟩
  obtain ⟨⟨y, ε1⟩, q, h⟩ := onSome_of h
  obtain ⟨kd, q2, h⟩ := onSome_of h
  obtain ⟨x0, q3, h⟩ := onSome_of h
  obtain ⟨w, q4, h⟩ := onSome_of h
  refine hv.so io B [] ε ε1 σ H y _ o q fun u B1 H1 s1 o1 => ?_
  cases x0 with
  | dict es =>
    simp only [gPut] at q4
    split at q4
    · rename_i hc
      cases q4
      simp only [Bool.and_eq_true, decide_eq_true_eq] at hc
      obtain ⟨⟨⟨⟨c1, c2⟩, c3⟩, c4⟩, c5⟩ := hc
      obtain ⟨kk, rfl⟩ := isKey_of c2
      have ru : Rep X.K H1 u y := o1.own.rep List.mem_cons_self
      obtain ⟨v, hσ, ow⟩ := o1.drop.takeS q3
      refine ⟨v, hσ, hk.so ε1 σ H1 _ _ o1.okR q2 fun kv H2 s2 rk => ?_⟩
      obtain ⟨a, kvs, rfl, hH, hB, dr⟩ := frzDic (ow.same s2) c1
      have ekv : kv = kV kk := by cases kk <;> (cases rk; rfl)
      subst ekv
      refine ⟨a, upd H2 a (.dK (putK kvs kk u)), rfl, .inl ⟨kvs, kk, hH, rfl, by rw [dr.len]; exact cap_lt c5, rfl⟩, ?_⟩
      have o2 := (o1.same s2).drop.giveS (ps' := []) q3 hσ (Same.updN (o1.same s2).sm hB _) (putDic (k := kk) (ow.same s2) hH dr (ru.mono (smOf s2)) c3 c4)
      exact re.nx B1 _ _ _ s1 o2 h
    · cases q4
  | _ => cases q4
def gListD : List D → Option D
  | [.dict es] => if plainD es then some (.list (es.map fun p => p.1)) else none
  | _ => none
theorem keys_frz {es : List (D × D)} (h : plainD es = true) : frozenL (es.map fun p => p.1) = true := by
  rw [frozenL_all, List.all_eq_true]
  intro x hx
  obtain ⟨q, hq, rfl⟩ := List.mem_map.mp hx
  obtain ⟨k, e⟩ := isKey_of (List.all_eq_true.mp h q hq)
  rw [e]
  cases k <;> rfl
theorem c_listD (hc : X.calm = true := by rfl) : CallP X (.type "list") (fun xs H Q => ∃ (a : Addr) (kvs : List (Key × V)), xs = [.ref a] ∧ Rd H a (.dK kvs) ∧ ∀ p, H p = none → Q (.ref p) (upd H p (.lst (kvs.map fun kv => kV kv.1)))) gListD := by
  refine ⟨call_listD hc, fun vs ds z H Q r e k => ?_⟩
  unfold gListD at e
  split at e
  · rename_i es
    split at e
    · rename_i hp
      cases e
      obtain ⟨v, rfl, rv⟩ := rep1 r
      cases rv with
      | dic h q rr e =>
        obtain ⟨kvs, rfl, dr⟩ := dicK q rr e hp
        exact ⟨_, kvs, rfl, h, fun p hn => k _ _ (sameNew hn _) (New.lst (NewL.frz dr.keys (keys_frz hp)) (Same.refl _) hn)⟩
      | scr h rr => exact absurd hp (by simp [plainD, isKey])
    · cases e
  · cases e
end
end Pd

set_option Elab.async false
set_option linter.all false
set_option maxRecDepth 100000
set_option maxHeartbeats 4000000
/-! Pd12: names as owned values, tuples and lists of owned values. -/
namespace Pd
open PySem PySem.Spec PyProof.Rows L2
section
variable {X : Cx} {a e : Expr} {es : List Expr} {ta : TE} {t : TA} {ma : FM} {ms : En → Option (List D × En)} {pos : Pos}
def mVar (i : Nat) : FM := fun ε => match ε[i]? with
  | some (.ow d) => some (d, if frozen d = true then ε else ε.set i .no)
  | some (.bo d) => if frozen d = true then some (d, ε) else none
  | _ => none
theorem mm_var (i : Nat) {x : Str} (hN : X.N[i]? = some x := by rfl) (hv : Vis X.env.scope x := by first | exact Or.inl rfl | exact Or.inr (Or.inl rfl) | exact Or.inr (Or.inr rfl)) (hd : (x == ("__debug__" : Str)) = false := by decide) (hcd : (x == ("__classdict__" : Str)) = false := by decide) :
    MM X (.Name x pos) (tVar i) (mVar i) := by
  refine ⟨pe_var hN hv hd hcd, fun io B ps ε ε' σ H d Q o q k => ?_⟩
  unfold mVar at q
  split at q
  · rename_i d0 hs
    obtain ⟨v, hσ⟩ := o.has i _ _ hs rfl
    refine ⟨v, hσ, ?_⟩
    cases q
    by_cases hz : frozen d = true
    · rw [if_pos hz] at k
      have rv : Rep X.K H v d := o.own.rep (List.mem_append_right _ (slots_mem hs rfl hσ))
      exact k v B H (Same.refl B) ⟨o.len, o.sm, o.own.frz rv hz, o.has, o.bo, o.io1, o.io2⟩
    · rw [if_neg hz] at k
      exact k v B H (Same.refl B) (o.move hs hσ)
  · rename_i d0 hs
    split at q
    · rename_i hz
      cases q
      obtain ⟨v, hσ, r⟩ := o.bo i _ hs
      exact ⟨v, hσ, k v B H (Same.refl B) ⟨o.len, o.sm, o.own.frz (r.mono (smOf o.sm)) hz, o.has, o.bo, o.io1, o.io2⟩⟩
    · cases q
  · cases q
theorem Ok.perm {K : PySem.W.Frag} {io : Option (Nat × V)} {B H : Hp} {ps ps' : List (V × D)} {ε : En} {σ : L2.St} (o : Ok K io B ps ε σ H) (p : ps.Perm ps') : Ok K io B ps' ε σ H := ⟨o.len, o.sm, o.own.perm (p.append_right _), o.has, o.bo, o.io1, o.io2⟩
/-- parts that are owned, all of them -/
def MNo (K : PySem.W.Frag) (t : TA) (f : En → Option (List D × En)) : Prop := ∀ (io : Option (Nat × V)) (B : Hp) (ps : List (V × D)) (ε ε' : En) (σ : L2.St) (H : Hp) (ds : List D) (Q : List V → Hp → Prop), Ok K io B ps ε σ H → f ε = some (ds, ε') →
  (∀ vs B' H', Same B B' → vs.length = ds.length → Ok K io B' (vs.zip ds ++ ps) ε' σ H' → Q vs H') → t σ H Q
structure MN (X : Cx) (es : List Expr) (t : TA) (f : En → Option (List D × En)) : Prop where
  pa : PA X es t
  so : MNo X.K t f
theorem mn_nil : MN X [] tNil maNil := ⟨pa_nil, fun io B ps ε ε' σ H d Q o q k => by cases q; exact k [] B H (Same.refl B) rfl o⟩
theorem mn_cons (ha : MM X a ta ma) (hr : MN X es t ms) (hs : starEach (a :: es) X.env = (false, eval a X.env) :: starEach es X.env := by rfl) : MN X (a :: es) (tCons ta t) (maCons ma ms) := by
  refine ⟨pa_cons ha.pe hr.pa hs, fun io B ps ε ε' σ H d Q o q k => ?_⟩
  obtain ⟨⟨x, ε1⟩, q1, q⟩ := bindSome q
  obtain ⟨⟨xs, ε2⟩, q2, q3⟩ := bindSome q
  cases q3
  refine ha.so io B ps ε ε1 σ H x _ o q1 fun v B1 H1 s1 o1 => ?_
  refine hr.so io B1 _ ε1 _ σ H1 xs _ o1 q2 fun vs B2 H2 s2 hl o2 => ?_
  refine k (v :: vs) B2 H2 (s1.trans s2) (by simp [hl]) (o2.perm ?_)
  exact List.perm_middle
def mTup (fs : En → Option (List D × En)) : FM := fun ε => (fs ε).bind fun x => if x.1.length ≤ 1000 then some (.tuple x.1, x.2) else none
def mLst (fs : En → Option (List D × En)) : FM := fun ε => (fs ε).bind fun x => if x.1.length ≤ 1000 then some (.list x.1, x.2) else none
theorem mm_tup {x1} (h : MN X es t ms) : MM X (.Tuple es x1 pos) (tTup t) (mTup ms) := by
  refine ⟨pe_tup h.pa, fun io B ps ε ε' σ H d Q o q k => ?_⟩
  obtain ⟨⟨xs, ε1⟩, q1, q⟩ := bindSome q
  split at q
  · rename_i hl
    cases q
    refine h.so io B ps ε _ σ H xs _ o q1 fun vs B1 H1 s1 hv o1 => ⟨by rw [hv]; exact small1000' hl, fun p hp => ?_⟩
    refine k _ B1 _ s1 ⟨o1.len, o1.sm.trans (sameNew hp _), ?_, o1.has, o1.bo, o1.io1, o1.io2⟩
    have ow : Owns X.K (upd H1 p (.tup vs)) B1 (vs.zip xs ++ (ps ++ slotsL ε1 σ)) := by
      have := o1.own.same (sameNew hp (.tup vs))
      rwa [List.append_assoc] at this
    obtain ⟨fp, r, nd, f⟩ := ow
    obtain ⟨f1, g1, rfl, r1, r2⟩ := r.split
    exact ⟨_, .cons (.tup (.inl (.inl upd_same)) (RpP.toL hv r1)) r2, nd, f⟩
  · cases q
theorem mm_lst (h : MN X es t ms) : MM X (.List es pos) (tLst t) (mLst ms) := by
  refine ⟨pe_lst h.pa, fun io B ps ε ε' σ H d Q o q k => ?_⟩
  obtain ⟨⟨xs, ε1⟩, q1, q⟩ := bindSome q
  split at q
  · rename_i hl
    cases q
    refine h.so io B ps ε _ σ H xs _ o q1 fun vs B1 H1 s1 hv o1 => ⟨by rw [hv]; exact small1000' hl, fun p hp => ?_⟩
    refine k _ B1 _ s1 ⟨o1.len, o1.sm.trans (sameNew hp _), ?_, o1.has, o1.bo, o1.io1, o1.io2⟩
    obtain ⟨fp, r, nd, f⟩ := o1.own
    rw [List.append_assoc] at r
    have hB : B1 p = none := Sm.free o1.sm hp
    have np : p ∉ fp := fun z => r.there p z hp
    obtain ⟨f1, g1, rfl, r1, r2⟩ := (r.same (sameNew hp (.lst vs))).split
    refine ⟨p :: (f1 ++ g1), .cons (.lst upd_same (RpP.toL hv r1)) r2, List.nodup_cons.mpr ⟨np, nd⟩, fun a ha => ?_⟩
    rcases List.mem_cons.mp ha with rfl | ha
    · exact hB
    · exact f a ha
  · cases q
end
theorem Ok.mkL {K : PySem.W.Frag} {io : Option (Nat × V)} {B H : Hp} {ps : List (V × D)} {ε : En} {σ : L2.St} {vs : List V} {ds : List D} {p : Addr} (o1 : Ok K io B (vs.zip ds ++ ps) ε σ H) (hv : vs.length = ds.length) (hp : H p = none) : Ok K io B ((.ref p, .list ds) :: ps) ε σ (upd H p (.lst vs)) := by
  refine ⟨o1.len, o1.sm.trans (sameNew hp _), ?_, o1.has, o1.bo, o1.io1, o1.io2⟩
  obtain ⟨fp, r, nd, f⟩ := o1.own
  rw [List.append_assoc] at r
  have hB : B p = none := Sm.free o1.sm hp
  have np : p ∉ fp := fun z => r.there p z hp
  obtain ⟨f1, g1, rfl, r1, r2⟩ := (r.same (sameNew hp (.lst vs))).split
  refine ⟨p :: (f1 ++ g1), .cons (.lst upd_same (RpP.toL hv r1)) r2, List.nodup_cons.mpr ⟨np, nd⟩, fun a ha => ?_⟩
  rcases List.mem_cons.mp ha with rfl | ha
  · exact hB
  · exact f a ha
theorem Ok.frzL {K : PySem.W.Frag} {io : Option (Nat × V)} {B H : Hp} {ps : List (V × D)} {ε : En} {σ : L2.St} (o : Ok K io B ps ε σ H) : ∀ {vs : List V} {ds : List D}, RepL K H vs ds → frozenL ds = true → Ok K io B (vs.zip ds ++ ps) ε σ H
  | _, _, .nil, _ => o
  | v :: vs, d :: ds, .cons r t, h => by
    have h' : frozen d = true ∧ frozenL ds = true := by simpa [frozenL] using h
    have q := Ok.frzL o t h'.2
    exact ⟨q.len, q.sm, q.own.frz r h'.1, q.has, q.bo, q.io1, q.io2⟩
/-- [x, ..]: the name's list becomes an item, the others are frozen and may read the name -/
def mLstOwn (i : Nat) (fs : En → Option (List D)) : FM := fun ε => match ε[i]? with
  | some (.ow d) => (fs ε).bind fun ds => if ds.length < 1000 ∧ frozenL ds = true then some (.list (d :: ds), ε.set i .no) else none
  | _ => none
theorem mm_lstOwn {X : Cx} {i : Nat} {x : Str} {px pos : Pos} {es : List Expr} {t : TA} {fs : En → Option (List D)} (hr : PAr X es t fs) (hN : X.N[i]? = some x := by rfl) (hv : Vis X.env.scope x := by first | exact Or.inl rfl | exact Or.inr (Or.inl rfl) | exact Or.inr (Or.inr rfl)) (hd : (x == ("__debug__" : Str)) = false := by decide) (hcd : (x == ("__classdict__" : Str)) = false := by decide)
    (hs : starEach (.Name x px :: es) X.env = (false, eval (.Name x px) X.env) :: starEach es X.env := by rfl) : MM X (.List (.Name x px :: es) pos) (tLst (tCons (tVar i) t)) (mLstOwn i fs) := by
  refine ⟨pe_lst (pa_cons (pe_var hN hv hd hcd) hr.pa hs), fun io B ps ε ε' σ H d Q o q k => ?_⟩
  unfold mLstOwn at q
  split at q
  · rename_i d0 hs0
    obtain ⟨ds, q1, q⟩ := bindSome q
    split at q
    · rename_i hc
      cases q
      obtain ⟨v, hσ⟩ := o.has i _ _ hs0 rfl
      refine ⟨v, hσ, hr.so ε σ H ds _ o.okR q1 fun vs H1 s1 r1 => ⟨?_, fun p hp => ?_⟩⟩
      · show vs.length + 1 ≤ sizeLine
        rw [r1.length]
        exact small1000' (by omega)
      · have o2 := (o.same s1).move hs0 hσ
        have o3 := o2.frzL r1 hc.2
        have o4 := o3.perm (ps' := ((v :: vs).zip (d0 :: ds)) ++ ps) List.perm_middle
        exact k _ B _ (Same.refl B) (o4.mkL (by simp [r1.length]) hp)
    · cases q
  · cases q
theorem look_relabel {env : Env} {y : Str} : ∀ {names : List (Str × NameKind)}, names.lookup y = some .cell ∨ names.lookup y = some .free → ((names.map fun (n, k) => if (k == NameKind.free && env.scope.kind == .function && env.kindOf n == some .cell) then (n, NameKind.cell) else (n, k)).lookup y = some .cell ∨
    (names.map fun (n, k) => if (k == NameKind.free && env.scope.kind == .function && env.kindOf n == some .cell) then (n, NameKind.cell) else (n, k)).lookup y = some .free)
  | [], h => by simp at h
  | (n, k) :: r, h => by
    have ih := @look_relabel env y r
    rw [List.map_cons]
    show (List.lookup y ((if (k == NameKind.free && env.scope.kind == .function && env.kindOf n == some .cell) = true then (n, NameKind.cell) else (n, k)) :: _) = _) ∨ (List.lookup y ((if (k == NameKind.free && env.scope.kind == .function && env.kindOf n == some .cell) = true then (n, NameKind.cell) else (n, k)) :: _) = _)
    cases hx : y == n with
    | true =>
      simp only [List.lookup_cons, hx] at h
      split
      · exact .inl (by simp [List.lookup_cons, hx])
      · simpa [List.lookup_cons, hx] using h
    | false =>
      simp only [List.lookup_cons, hx] at h
      split <;> (simp only [List.lookup_cons, hx]; exact ih h)
theorem blkOk_in {X : Cx} {s : Shared} {H : Hp} {scope scope2 : Scope} {C : Addr} {cl : List (Str × Addr)} {fp : List Addr} {own : List (Str × Nat)} {N : List Str} (h : BlkOk N scope scope2 own) (hN : X.N = N := by rfl) :
    BlkOk (X.blk s H scope (compEnvC scope cl C X.env) fp).N (X.blk s H scope (compEnvC scope cl C X.env) fp).env.scope scope2 own := by
  subst hN
  exact ⟨h.kind, h.uniq, h.ix, fun y hy e => look_relabel (h.free y hy e), h.own⟩
theorem hu64 {k : Nat} {A : Around} (hr : Room k A) : A.units + 64 < cLine := by
  have := hr.un
  omega
abbrev cmpEq := gCmp cEq PyData.eqv
abbrev cmpNe := gCmp cEq fun d e => !PyData.eqv d e
abbrev cmpLt := gCmp cLt W.dataLt
abbrev cmpGt := gCmp cLt fun d e => W.dataLt e d
abbrev cmpLe := gCmp cLt fun d e => !W.dataLt e d
abbrev cmpGe := gCmp cLt fun d e => !W.dataLt d e
abbrev cmpIn := gCmp cIn gIn
abbrev cmpNin := gCmp cIn fun d e => !gIn d e
end Pd

set_option Elab.async false
set_option linter.all false
set_option maxRecDepth 100000
set_option maxHeartbeats 4000000
/-! Pd13: how the semantics is computed at given data. -/
namespace Pd
open PySem PySem.Spec PyProof.Rows L2
section
variable {S : SE} {ε : En} {s r a b : FS} {m f g h : FM} {i j : Nat} {e e' e'' : FE}
@[simp] theorem ev_os {α : Type} {x : α} {P : α → Prop} : onSome (some x) P = P x := rfl
@[simp] theorem ev_on {α : Type} {P : α → Prop} : onSome (none : Option α) P = False := rfl
@[simp] theorem ev_seq : sSeq s r S ε = s ⟨r S, S.rt, S.bk, S.ct⟩ ε := rfl
@[simp] theorem ev_next : sNext S ε = S.nx ε := rfl
@[simp] theorem ev_never : sNever S ε = False := rfl
@[simp] theorem ev_break : sBreak S ε = S.bk ε := rfl
@[simp] theorem ev_cont : sCont S ε = S.ct ε := rfl
@[simp] theorem ev_expr : sExpr m S ε = onSome (m ε) fun x => S.nx x.2 := rfl
@[simp] theorem ev_ret : sRet m S ε = onSome (m ε) fun x => S.rt x.1 x.2 := rfl
@[simp] theorem ev_retN : sRetN S ε = S.rt .none ε := rfl
@[simp] theorem ev_if {c : En → Option (Bool × En)} : sIf c a b S ε = onSome (c ε) fun x => if x.1 then a S x.2 else b S x.2 := rfl
@[simp] theorem ev_set : sSet i m S ε = onSome (m ε) fun x => notIo x.2[i]? = true ∧ S.nx (x.2.set i (.ow x.1)) := rfl
@[simp] theorem ev_par : sPar i j f g S ε = onSome (f ε) fun x => onSome (g x.2) fun y => notIo y.2[j]? = true ∧ notIo (y.2.set j (.ow y.1))[i]? = true ∧ S.nx ((y.2.set j (.ow y.1)).set i (.ow x.1)) := rfl
@[simp] theorem ev_asg {bd : Bd} : sAsg bd m S ε = onSome (m ε) fun x => onSome (bd x.1 x.2) fun ε' => S.nx ε' := rfl
@[simp] theorem ev_aug {q : D → D → Option D} : sAug i q m S ε = onSome (get ε i) fun x => frozen x = true ∧ onSome (m ε) fun y => onSome (q x y.1) fun z => notIo y.2[i]? = true ∧ S.nx (y.2.set i (.ow z)) := rfl
@[simp] theorem ev_for {mi : En → Option (List D × En)} {bd : Bd} : sFor mi bd s S ε = onSome (mi ε) fun x => forM bd s x.1 S x.2 := rfl
theorem ev_while {c : En → Option (Bool × En)} : sWhile c s S ε = ∃ n, whM c s n S ε := rfl
@[simp] theorem ev_fnil {bd : Bd} : forM bd s [] S ε = S.nx ε := rfl
theorem ev_fcons {bd : Bd} {d : D} {ds : List D} : forM bd s (d :: ds) S ε = onSome (bd d ε) fun ε1 => s ⟨forM bd s ds S, S.rt, S.nx, forM bd s ds S⟩ ε1 := rfl
theorem ev_wh {c : En → Option (Bool × En)} {n : Nat} : whM c s (n + 1) S ε = onSome (c ε) fun x => if x.1 then s ⟨whM c s n S, S.rt, S.nx, whM c s n S⟩ x.2 else S.nx x.2 := rfl
@[simp] theorem ev_mP : mP e ε = (e ε).map fun d => (d, ε) := rfl
@[simp] theorem ev_mT {c : En → Option Bool} : mT c ε = (c ε).map fun d => (d, ε) := rfl
@[simp] theorem ev_var : eVar i ε = get ε i := rfl
@[simp] theorem ev_c {d : D} : eC d ε = some d := rfl
@[simp] theorem ev_e1 {q : D → Option D} : e1 q e ε = (e ε).bind q := rfl
@[simp] theorem ev_e2 {q : D → D → Option D} : e2 q e e' ε = (e ε).bind fun x => (e' ε).bind fun y => q x y := rfl
@[simp] theorem ev_frz : eFrz e ε = (e ε).bind fun d => if frozen d then some d else none := rfl
@[simp] theorem ev_anil : aNil ε = some [] := rfl
@[simp] theorem ev_acons {q : En → Option (List D)} : aCons e q ε = (e ε).bind fun x => (q ε).bind fun xs => some (x :: xs) := rfl
@[simp] theorem ev_tup {q : En → Option (List D)} : eTup q ε = (q ε).bind fun xs => if xs.length ≤ 1000 then some (.tuple xs) else none := rfl
@[simp] theorem ev_lst {q : En → Option (List D)} : eLst q ε = (q ε).bind fun xs => if xs.length ≤ 1000 then some (.list xs) else none := rfl
@[simp] theorem ev_call {k : List D → Option D} {q : En → Option (List D)} : eCall k q ε = (q ε).bind k := rfl
@[simp] theorem ev_tst : tst e ε = (e ε).bind toB := rfl
@[simp] theorem ev_toB {c : Bool} : toB (.bool c) = some c := rfl
@[simp] theorem ev_bnot {c : En → Option Bool} : bNot c ε = (c ε).map (!·) := rfl
@[simp] theorem ev_band {c d : En → Option Bool} : bAnd c d ε = (c ε).bind fun x => if x then d ε else some false := rfl
@[simp] theorem ev_bor {c d : En → Option Bool} : bOr c d ε = (c ε).bind fun x => if x then some true else d ε := rfl
@[simp] theorem ev_eand : eAnd e e' ε = (e ε).bind fun d => (toB d).bind fun x => if x then e' ε else some (.bool false) := rfl
@[simp] theorem ev_eor : eOr e e' ε = (e ε).bind fun d => (toB d).bind fun x => if x then some (.bool true) else e' ε := rfl
@[simp] theorem ev_enot : eNot e ε = (e ε).bind fun d => (toB d).map fun x => .bool (!x) := rfl
@[simp] theorem ev_eif {c : En → Option Bool} : eIf c e e' ε = (c ε).bind fun x => if x then e ε else e' ε := rfl
@[simp] theorem ev_chain {q q' : D → D → Option D} : eChain q q' e e' e'' ε = (e ε).bind fun x => (e' ε).bind fun y => (q x y).bind fun z => (toB z).bind fun c => if c then (e'' ε).bind fun w => q' y w else some (.bool false) := rfl
@[simp] theorem ev_fn {n : Nat} {k : List D → Option D} {q : En → Option (List D)} : eFn n k q ε = (q ε).bind fun ds => if ds.length = n then k ds else none := rfl
@[simp] theorem ev_mfn {n : Nat} {k : List D → Option D} {q : En → Option (List D × En)} : mFn n k q ε = (q ε).bind fun x => if x.1.length = n then (k x.1).map fun z => (z, x.2) else none := rfl
@[simp] theorem ev_manil : maNil ε = some ([], ε) := rfl
@[simp] theorem ev_macons {q : En → Option (List D × En)} : maCons m q ε = (m ε).bind fun x => (q x.2).bind fun xs => some (x.1 :: xs.1, xs.2) := rfl
@[simp] theorem ev_mcall {k : List D → Option D} {q : En → Option (List D × En)} : mCall k q ε = (q ε).bind fun x => (k x.1).map fun z => (z, x.2) := rfl
@[simp] theorem ev_mtup {q : En → Option (List D × En)} : mTup q ε = (q ε).bind fun x => if x.1.length ≤ 1000 then some (.tuple x.1, x.2) else none := rfl
@[simp] theorem ev_mlst {q : En → Option (List D × En)} : mLst q ε = (q ε).bind fun x => if x.1.length ≤ 1000 then some (.list x.1, x.2) else none := rfl
@[simp] theorem ev_m2 {q : D → D → Option D} : m2 q f g ε = (f ε).bind fun x => (g x.2).bind fun y => (q x.1 y.1).map fun z => (z, y.2) := rfl
@[simp] theorem ev_m1 {q : D → Option D} : m1 q f ε = (f ε).bind fun x => (q x.1).map fun z => (z, x.2) := rfl
@[simp] theorem ev_mtst : mTst f ε = (f ε).bind fun x => (toB x.1).map fun z => (z, x.2) := rfl
@[simp] theorem ev_mnot {c : En → Option (Bool × En)} : mNot c ε = (c ε).map fun x => (!x.1, x.2) := rfl
@[simp] theorem ev_mand {c d : En → Option (Bool × En)} : mAnd c d ε = (c ε).bind fun x => if x.1 then d x.2 else some (false, x.2) := rfl
@[simp] theorem ev_mor {c d : En → Option (Bool × En)} : mOr c d ε = (c ε).bind fun x => if x.1 then some (true, x.2) else d x.2 := rfl
@[simp] theorem ev_mandv : mAndV f g ε = (f ε).bind fun x => (toB x.1).bind fun c => if c then g x.2 else some (.bool false, x.2) := rfl
@[simp] theorem ev_morv : mOrV f g ε = (f ε).bind fun x => (toB x.1).bind fun c => if c then some (.bool true, x.2) else g x.2 := rfl
@[simp] theorem ev_mif {c : En → Option (Bool × En)} : mIf c f g ε = (c ε).bind fun x => if x.1 then f x.2 else g x.2 := rfl
@[simp] theorem ev_gfrz {q : D → D → Option D} {x y : D} : gFrz q x y = (q x y).bind fun d => if frozen d then some d else none := rfl
@[simp] theorem ev_mhhole {q : En → Option (List D × En)} : mhHole q ε = (q ε).map fun x => (([], x.1), x.2) := rfl
@[simp] theorem ev_mhcons {q : En → Option ((List D × List D) × En)} : mhCons m q ε = (m ε).bind fun x => (q x.2).map fun y => ((x.1 :: y.1.1, y.1.2), y.2) := rfl
@[simp] theorem ev_mio {n : Nat} {k : List D → Option (D × D)} {q : En → Option ((List D × List D) × En)} : mIo n i k q ε = (mineAt ε i).bind fun _ => (q ε).bind fun x => if x.1.1.length + 1 + x.1.2.length = n then (mineAt x.2 i).bind fun d => (k (x.1.1 ++ d :: x.1.2)).map fun z => (z.1, setMine x.2 i z.2) else none := rfl
@[simp] theorem ev_mapp : mApp i m ε = (mineAt ε i).bind fun x => if isLst x then (m ε).bind fun y => (mineAt y.2 i).bind fun z => (gApp z y.1).map fun w => (.none, setMine y.2 i w) else none := rfl
@[simp] theorem ev_bsub {d : D} : bSub i e d ε = (e ε).bind fun k => (mineAt ε i).bind fun x => (gSetL x k d).map fun w => setMine ε i w := rfl
@[simp] theorem ev_dput : sDput i e m S ε = onSome (m ε) fun y => onSome (e y.2) fun k => onSome (mineAt y.2 i) fun x => onSome (gPut x k y.1) fun w => S.nx (setMine y.2 i w) := rfl
@[simp] theorem ev_rg1 : rg1 e ε = (e ε).bind fun d => (toI d).bind fun n => some (0, n) := rfl
@[simp] theorem ev_rg2 : rg2 e e' ε = (e ε).bind fun d => (e' ε).bind fun d' => (toI d).bind fun n => (toI d').bind fun m => some (n, m) := rfl
@[simp] theorem ev_lrg {q : En → Option (Int × Int)} : eLrg q ε = (q ε).bind fun o => if rgOk o.1 o.2 then some (.list (rgD o.1 o.2)) else none := rfl
@[simp] theorem ev_trg {q : En → Option (Int × Int)} : eTrg q ε = (q ε).bind fun o => if rgOk o.1 o.2 then some (.tuple (rgD o.1 o.2)) else none := rfl
@[simp] theorem ev_toI {k : Int} : toI (.int k) = some k := rfl
@[simp] theorem ev_onone : oNone ε = some none := rfl
@[simp] theorem ev_osome : oSome e ε = (e ε).bind fun d => (toI d).map some := rfl
@[simp] theorem ev_sl {lo hi : En → Option (Option Int)} : eSl e lo hi ε = (e ε).bind fun d => (lo ε).bind fun l => (hi ε).bind fun h => gSl d l h := rfl
@[simp] theorem ev_lc {vs : List Nat} {it : En → Option (List D)} {bd : Bd} {tt : En → Option Bool} : eLc vs it bd tt e ε = (it ε).bind fun ds => if ds.length ≤ cap then (compL bd tt e (wipeE ε vs) ds).map .list else none := rfl
@[simp] theorem ev_mlc {vs : List Nat} {it : En → Option (List D × En)} {bd : Bd} {tt : En → Option (Bool × En)} : mLc vs it bd tt m ε = (it ε).bind fun x => if wipeOk x.2 vs = true ∧ x.1.length ≤ cap then (compM vs bd tt m x.1 (wipeE x.2 vs)).map fun y => (.list y.1, backE x.2 vs y.2) else none := rfl
@[simp] theorem ev_iof {gi : List D → Option (List D)} {q : En → Option (List D)} : iOf gi q ε = (q ε).bind gi := rfl
@[simp] theorem ev_iself : iSelf e ε = (e ε).bind itemsS := rfl
@[simp] theorem ev_miof {gi : List D → Option (List D)} {q : En → Option (List D × En)} : miOf gi q ε = (q ε).bind fun x => (gi x.1).map fun y => (y, x.2) := rfl
@[simp] theorem ev_miself : miSelf m ε = (m ε).bind fun x => (itemsS x.1).map fun y => (y, x.2) := rfl
@[simp] theorem ev_btrue : bTrue ε = some true := rfl
@[simp] theorem ev_mtrue : mTrue ε = some (true, ε) := rfl
@[simp] theorem ev_bname {d : D} : bName i d ε = some (ε.set i (.bo d)) := rfl
@[simp] theorem ev_bbname {d : D} : bbName i d ε = if notIo ε[i]? then some (ε.set i (toSl d)) else none := rfl
@[simp] theorem ev_mbname {d : D} : mbName i d ε = if notIo ε[i]? then some (ε.set i (.ow d)) else none := rfl
@[simp] theorem ev_btup {bs : Bds} {ds : List D} : bTup bs (.tuple ds) ε = bs ds ε := rfl
@[simp] theorem ev_bnil : bNil [] ε = some ε := rfl
@[simp] theorem ev_bcons {bd : Bd} {bs : Bds} {d : D} {ds : List D} : bCons bd bs (d :: ds) ε = (bd d ε).bind fun ε' => bs ds ε' := rfl
@[simp] theorem ev_get0 {t : Slot} : get (t :: ε) 0 = t.val := rfl
@[simp] theorem ev_getS {t : Slot} : get (t :: ε) (i + 1) = get ε i := rfl
@[simp] theorem ev_val1 {d : D} : Slot.val (.ow d) = some d := rfl
@[simp] theorem ev_val2 {d : D} : Slot.val (.bo d) = some d := rfl
@[simp] theorem ev_val3 {d : D} : Slot.val (.io d) = some d := rfl
@[simp] theorem ev_val4 : Slot.val .no = none := rfl
@[simp] theorem ev_val5 {d : D} : Slot.val (toSl d) = some d := by unfold toSl; split <;> rfl
@[simp] theorem ev_mine1 {d : D} : Slot.mine (.ow d) = some d := rfl
@[simp] theorem ev_mine3 {d : D} : Slot.mine (.io d) = some d := rfl
@[simp] theorem ev_io0 {d : D} : notIo (some (toSl d)) = true := by unfold toSl; split <;> rfl
@[simp] theorem ev_io1 {d : D} : notIo (some (.ow d)) = true := rfl
@[simp] theorem ev_io2 {d : D} : notIo (some (.bo d)) = true := rfl
@[simp] theorem ev_io3 : notIo (some .no) = true := rfl
@[simp] theorem ev_mineAt0 {t : Slot} : mineAt (t :: ε) 0 = t.mine := rfl
@[simp] theorem ev_mineAtS {t : Slot} : mineAt (t :: ε) (i + 1) = mineAt ε i := rfl
@[simp] theorem ev_setm0 {d d' : D} : setMine (.ow d :: ε) 0 d' = .ow d' :: ε := rfl
@[simp] theorem ev_setm1 {d d' : D} : setMine (.io d :: ε) 0 d' = .io d' :: ε := rfl
@[simp] theorem ev_setmS {t : Slot} {d' : D} : setMine (t :: ε) (i + 1) d' = t :: setMine ε i d' := by
  unfold setMine
  rw [List.getElem?_cons_succ]
  cases ε[i]? with
  | none => rfl
  | some s => cases s <;> rfl
@[simp] theorem ev_mvar0 {d : D} : mVar 0 (.ow d :: ε) = some (d, if frozen d = true then .ow d :: ε else .no :: ε) := rfl
@[simp] theorem ev_mvar0b {d : D} : mVar 0 (.bo d :: ε) = if frozen d = true then some (d, .bo d :: ε) else none := rfl
@[simp] theorem ev_mvarS {t : Slot} : mVar (i + 1) (t :: ε) = (mVar i ε).map fun x => (x.1, t :: x.2) := by
  unfold mVar
  rw [List.getElem?_cons_succ]
  cases ε[i]? with
  | none => rfl
  | some s =>
    cases s with
    | ow d => by_cases h : frozen d = true <;> simp [h]
    | bo d => by_cases h : frozen d = true <;> simp [h]
    | _ => rfl
@[simp] theorem ev_lstOwnS {t : Slot} {fs : En → Option (List D)} : mLstOwn (i + 1) fs (t :: ε) = match ε[i]? with
  | some (.ow d) => (fs (t :: ε)).bind fun ds => if ds.length < 1000 ∧ frozenL ds = true then some (.list (d :: ds), t :: ε.set i .no) else none
  | _ => none := by
  unfold mLstOwn
  rw [List.getElem?_cons_succ]
  cases ε[i]? with
  | none => rfl
  | some s => cases s <;> rfl
@[simp] theorem ev_wipe0 : wipeE ε [] = ε := rfl
@[simp] theorem ev_wipeS {v : Nat} {vs : List Nat} : wipeE ε (v :: vs) = (wipeE ε vs).set v .no := rfl
@[simp] theorem ev_envP {ds : List D} {k : Nat} : envP ds k = ds.map toSl ++ List.replicate k .no := rfl
@[simp] theorem ev_envI {p q : List D} {d : D} {k : Nat} : envI p d q k = p.map toSl ++ .io d :: (q.map toSl ++ List.replicate k .no) := rfl
@[simp] theorem ev_seP {d : D} : seP d = ⟨fun _ => d = .none, fun d' _ => d' = d, fun _ => False, fun _ => False⟩ := rfl
@[simp] theorem ev_seI {k : Nat} {d d' : D} : seI k d d' = ⟨fun ε => d = .none ∧ ε[k]? = some (.io d'), fun d0 ε => d0 = d ∧ ε[k]? = some (.io d'), fun _ => False, fun _ => False⟩ := rfl
end
/-! frozen data -/
@[simp] theorem fz_int {k : Int} : frozen (.int k) = true := rfl
@[simp] theorem fz_bool {k : Bool} : frozen (.bool k) = true := rfl
@[simp] theorem fz_str {k : Str} : frozen (.str k) = true := rfl
@[simp] theorem fz_none : frozen .none = true := rfl
@[simp] theorem fz_tup {xs : List D} : frozen (.tuple xs) = frozenL xs := rfl
@[simp] theorem fz_list {xs : List D} : frozen (.list xs) = false := rfl
@[simp] theorem fz_dict {xs : List (D × D)} : frozen (.dict xs) = false := rfl
@[simp] theorem fz_nil : frozenL [] = true := rfl
@[simp] theorem fz_cons {x : D} {xs : List D} : frozenL (x :: xs) = (frozen x && frozenL xs) := rfl
@[simp] theorem fz_app {x : List D} {xs : List D} : frozenL (x ++ xs) = (frozenL x && frozenL xs) := frozenL_append _ _
theorem fz_map {α : Type} {f : α → D} (h : ∀ x, frozen (f x) = true) (xs : List α) : frozenL (xs.map f) = true := by
  induction xs with
  | nil => rfl
  | cons x xs ih => simp [h, ih]
@[simp] theorem fz_ints {xs : List Int} : frozenL (xs.map PyData.int) = true := fz_map (fun _ => rfl) xs
@[simp] theorem fz_bools {xs : List Bool} : frozenL (xs.map PyData.bool) = true := fz_map (fun _ => rfl) xs
theorem fz_mapP {α : Type} {f : α → D} {xs : List α} (h : ∀ x ∈ xs, frozen (f x) = true) : frozenL (xs.map f) = true := by
  induction xs with
  | nil => rfl
  | cons x xs ih => simp [h x, ih fun y hy => h y (List.mem_cons_of_mem _ hy)]
@[simp] theorem ts_int {k : Int} : toSl (.int k) = .ow (.int k) := rfl
@[simp] theorem ts_bool {k : Bool} : toSl (.bool k) = .ow (.bool k) := rfl
@[simp] theorem ts_str {k : Str} : toSl (.str k) = .ow (.str k) := rfl
@[simp] theorem ts_none : toSl .none = .ow .none := rfl
@[simp] theorem ts_list {xs : List D} : toSl (.list xs) = .bo (.list xs) := rfl
@[simp] theorem ts_dict {xs : List (D × D)} : toSl (.dict xs) = .bo (.dict xs) := rfl
theorem ts_frz {d : D} (h : frozen d = true) : toSl d = .ow d := by unfold toSl; rw [if_pos h]
@[simp] theorem ts_tints {xs : List Int} : toSl (.tuple (xs.map PyData.int)) = .ow (.tuple (xs.map PyData.int)) := ts_frz (by simp)
/-! names that are lent -/
section
variable {ε : En} {i : Nat} {d : D} {t : Slot}
@[simp] theorem ev_lend0 : mLend 0 (.ow d :: ε) = some (d, (if frozen d = true then .ow d else .bo d) :: ε) := rfl
@[simp] theorem ev_lend0b : mLend 0 (.bo d :: ε) = some (d, .bo d :: ε) := rfl
@[simp] theorem ev_lendS : mLend (i + 1) (t :: ε) = (mLend i ε).map fun x => (x.1, t :: x.2) := by
  unfold mLend
  rw [List.getElem?_cons_succ]
  cases ε[i]? with
  | none => rfl
  | some s => cases s <;> rfl
end
/-! operators at numbers, flags, texts -/
section
variable {i j : Int}
@[simp] theorem op_ii_add : gAdd (.int i) (.int j) = some (.int (i + j)) := rfl
@[simp] theorem op_ii_addI : gAddI (.int i) (.int j) = some (.int (i + j)) := rfl
@[simp] theorem op_ii_sub : gSub (.int i) (.int j) = some (.int (i - j)) := rfl
theorem op_ii_mul (h1 : sm i = true) (h2 : sm j = true) : gMul (.int i) (.int j) = some (.int (i * j)) := by unfold gMul; simp [h1, h2]
theorem op_ii_div (h1 : 0 < j) (h2 : sm j = true) : gFdiv (.int i) (.int j) = some (.int (i / j)) := by simp [gFdiv, gI2, cDiv, h1, h2]
theorem op_ii_mod (h1 : 0 < j) : gMod (.int i) (.int j) = some (.int (i % j)) := by simp [gMod, gI2, h1]
@[simp] theorem op_neg : gNeg (.int i) = some (.int (-i)) := rfl
theorem sm_of {k : Int} (h1 : -(10 ^ 200) ≤ k) (h2 : k ≤ 10 ^ 200) : sm k = true := by
  unfold sm BIG
  rw [decide_eq_true_eq]
  have : k.natAbs ≤ 10 ^ 200 := by omega
  exact Nat.lt_of_le_of_lt this (by decide +kernel)
@[simp] theorem cq_ii : cmpEq (.int i) (.int j) = some (.bool (decide (i = j))) := by
  show some (PyData.bool (i == j)) = _
  rfl
@[simp] theorem cn_ii : cmpNe (.int i) (.int j) = some (.bool (!decide (i = j))) := rfl
end
end Pd

set_option Elab.async false
set_option linter.all false
set_option maxRecDepth 100000
set_option maxHeartbeats 4000000
/-! Pd14: comparisons, places, walks and comprehensions at given data; contracts by cases. -/
namespace Pd
open PySem PySem.Spec PyProof.Rows L2
section
variable {i j : Int}
@[simp] theorem cl_ii : cmpLt (.int i) (.int j) = some (.bool (decide (i < j))) := by
  show gCmp cLt W.dataLt (.int i) (.int j) = _
  unfold gCmp
  rw [show cLt (.int i) (.int j) = true from rfl, if_pos rfl, W.dataLt_int]
@[simp] theorem cg_ii : cmpGt (.int i) (.int j) = some (.bool (decide (j < i))) := by
  show gCmp cLt (fun d e => W.dataLt e d) (.int i) (.int j) = _
  unfold gCmp
  rw [show cLt (.int i) (.int j) = true from rfl, if_pos rfl]
  exact congrArg (fun z => some (PyData.bool z)) (W.dataLt_int j i)
@[simp] theorem cle_ii : cmpLe (.int i) (.int j) = some (.bool (decide (i ≤ j))) := by
  show gCmp cLt (fun d e => !W.dataLt e d) (.int i) (.int j) = _
  unfold gCmp
  rw [show cLt (.int i) (.int j) = true from rfl, if_pos rfl]
  refine (congrArg (fun z => some (PyData.bool (!z))) (W.dataLt_int j i)).trans ?_
  congr 2
  by_cases h : i ≤ j <;> simp [h] <;> omega
@[simp] theorem cge_ii : cmpGe (.int i) (.int j) = some (.bool (decide (j ≤ i))) := by
  show gCmp cLt (fun d e => !W.dataLt d e) (.int i) (.int j) = _
  unfold gCmp
  rw [show cLt (.int i) (.int j) = true from rfl, if_pos rfl]
  refine (congrArg (fun z => some (PyData.bool (!z))) (W.dataLt_int i j)).trans ?_
  congr 2
  by_cases h : j ≤ i <;> simp [h] <;> omega
end
@[simp] theorem cq_ss {x y : Str} : cmpEq (.str x) (.str y) = some (.bool (decide (x = y))) := by
  show some (PyData.bool (x == y)) = _
  congr 2
@[simp] theorem cn_ss {x y : Str} : cmpNe (.str x) (.str y) = some (.bool (!decide (x = y))) := by
  show some (PyData.bool (!(x == y))) = _
  congr 3
@[simp] theorem cq_bb {x y : Bool} : cmpEq (.bool x) (.bool y) = some (.bool (decide (x = y))) := by
  cases x <;> cases y <;> rfl
@[simp] theorem cn_bb {x y : Bool} : cmpNe (.bool x) (.bool y) = some (.bool (!decide (x = y))) := by
  cases x <;> cases y <;> rfl
theorem eqvAll_ints : ∀ xs ys : List Int, PyData.eqvAll (xs.map .int) (ys.map .int) = decide (xs = ys)
  | [], [] => rfl
  | [], _ :: _ => by simp [PyData.eqvAll]
  | _ :: _, [] => by simp [PyData.eqvAll]
  | x :: xs, y :: ys => by
    show ((x == y) && PyData.eqvAll (xs.map .int) (ys.map .int)) = _
    rw [eqvAll_ints xs ys]
    by_cases h : x = y <;> by_cases h2 : xs = ys <;> simp [h, h2]
theorem plainAll_map {α : Type} {f : α → D} (h : ∀ x, (f x).plain = true) : ∀ xs : List α, PyData.plainAll (xs.map f) = true
  | [] => rfl
  | x :: xs => by
    show ((f x).plain && PyData.plainAll (xs.map f)) = true
    rw [h x, plainAll_map h xs]
    rfl
theorem plainAll_of : ∀ xs : List D, (∀ x ∈ xs, x.plain = true) → PyData.plainAll xs = true
  | [], _ => rfl
  | x :: xs, h => by
    show (x.plain && PyData.plainAll xs) = true
    rw [h x List.mem_cons_self, plainAll_of xs fun y hy => h y (List.mem_cons_of_mem _ hy)]
    rfl
theorem depthAll_le {n : Nat} : ∀ xs : List D, (∀ x ∈ xs, x.depth ≤ n) → PyData.depthAll xs ≤ n
  | [], _ => Nat.zero_le _
  | x :: xs, h => by
    show max x.depth (PyData.depthAll xs) ≤ n
    exact Nat.max_le.mpr ⟨h x List.mem_cons_self, depthAll_le xs fun y hy => h y (List.mem_cons_of_mem _ hy)⟩
/-- data that may be compared -/
def okD (n : Nat) (d : D) : Prop := d.plain = true ∧ d.depth ≤ n
theorem okD_int {k : Int} {n : Nat} : okD (n + 1) (.int k) := ⟨rfl, Nat.zero_le _⟩
theorem okD_bool {k : Bool} {n : Nat} : okD (n + 1) (.bool k) := ⟨rfl, Nat.zero_le _⟩
theorem okD_str {k : Str} {n : Nat} : okD (n + 1) (.str k) := ⟨rfl, Nat.zero_le _⟩
theorem okD_none {n : Nat} : okD (n + 1) .none := ⟨rfl, Nat.zero_le _⟩
theorem okD_tup {xs : List D} {n : Nat} (h : ∀ x ∈ xs, okD n x) : okD (n + 1) (.tuple xs) :=
  ⟨plainAll_of xs fun x hx => (h x hx).1, by
    show PyData.depthAll xs + 1 ≤ n + 1
    exact Nat.succ_le_succ (depthAll_le xs fun x hx => (h x hx).2)⟩
theorem okD_list {xs : List D} {n : Nat} (h : ∀ x ∈ xs, okD n x) : okD (n + 1) (.list xs) :=
  ⟨plainAll_of xs fun x hx => (h x hx).1, by
    show PyData.depthAll xs + 1 ≤ n + 1
    exact Nat.succ_le_succ (depthAll_le xs fun x hx => (h x hx).2)⟩
theorem okD_mono {n m : Nat} {d : D} (h : okD n d) (l : n ≤ m) : okD m d := ⟨h.1, Nat.le_trans h.2 l⟩
theorem cq_of {d e : D} (h1 : okD 40 d) (h2 : okD 40 e) : cmpEq d e = some (.bool (PyData.eqv d e)) := by
  show gCmp cEq PyData.eqv d e = _
  unfold gCmp
  rw [if_pos]
  unfold cEq shal
  simp only [Bool.and_eq_true, decide_eq_true_eq]
  exact ⟨⟨h1.1, h2.1⟩, Nat.le_trans (Nat.min_le_left _ _) h1.2⟩
theorem cn_of {d e : D} (h1 : okD 40 d) (h2 : okD 40 e) : cmpNe d e = some (.bool (!PyData.eqv d e)) := by
  show gCmp cEq (fun d e => !PyData.eqv d e) d e = _
  unfold gCmp
  rw [if_pos]
  unfold cEq shal
  simp only [Bool.and_eq_true, decide_eq_true_eq]
  exact ⟨⟨h1.1, h2.1⟩, Nat.le_trans (Nat.min_le_left _ _) h1.2⟩
theorem okD_tints {xs : List Int} {n : Nat} : okD (n + 2) (.tuple (xs.map .int)) := okD_tup fun x hx => by
  obtain ⟨k, _, rfl⟩ := List.mem_map.mp hx
  exact okD_int
@[simp] theorem cq_tt {xs ys : List Int} : cmpEq (.tuple (xs.map .int)) (.tuple (ys.map .int)) = some (.bool (decide (xs = ys))) := by
  rw [cq_of (okD_mono (okD_tints (n := 0)) (by decide)) (okD_mono (okD_tints (n := 0)) (by decide))]
  show some (PyData.bool (PyData.eqvAll (xs.map .int) (ys.map .int))) = _
  rw [eqvAll_ints]
@[simp] theorem cn_tt {xs ys : List Int} : cmpNe (.tuple (xs.map .int)) (.tuple (ys.map .int)) = some (.bool (!decide (xs = ys))) := by
  rw [cn_of (okD_mono (okD_tints (n := 0)) (by decide)) (okD_mono (okD_tints (n := 0)) (by decide))]
  show some (PyData.bool (!PyData.eqvAll (xs.map .int) (ys.map .int))) = _
  rw [eqvAll_ints]
/-- eqv decides equality of frozen data without flags -/
def pureD : D → Bool
  | .int _ => true
  | .str _ => true
  | .none => true
  | _ => false
/-! ### in, not in: numbers in lists and tuples of numbers -/
theorem any_ints (i : Int) (xs : List Int) : ((xs.map PyData.int).any fun y => PyData.eqv y (.int i)) = decide (i ∈ xs) := by
  induction xs with
  | nil => rfl
  | cons x xs ih =>
    rw [List.map_cons, List.any_cons, ih]
    show ((x == i) || decide (i ∈ xs)) = _
    by_cases h : x = i
    · subst h; simp
    · have h' : ¬ i = x := fun z => h z.symm
      simp [h, h']
theorem okAll_ints (xs : List Int) (i : Int) : ((PyData.int i).plain && PyData.plainAll (xs.map .int) && decide (min (PyData.depthAll (xs.map .int)) (PyData.int i).depth ≤ 40)) = true := by
  rw [plainAll_map (fun _ => rfl)]
  simp only [Bool.and_true, Bool.and_eq_true, decide_eq_true_eq]
  exact ⟨rfl, Nat.le_trans (Nat.min_le_right _ _) (Nat.zero_le _)⟩
@[simp] theorem ci_it {i : Int} {xs : List Int} : cmpIn (.int i) (.tuple (xs.map .int)) = some (.bool (decide (i ∈ xs))) := by
  show gCmp cIn gIn _ _ = _
  unfold gCmp
  rw [if_pos (show cIn (.int i) (.tuple (xs.map .int)) = true from okAll_ints xs i)]
  exact congrArg (fun z => some (PyData.bool z)) (any_ints i xs)
@[simp] theorem ci_il {i : Int} {xs : List Int} : cmpIn (.int i) (.list (xs.map .int)) = some (.bool (decide (i ∈ xs))) := by
  show gCmp cIn gIn _ _ = _
  unfold gCmp
  rw [if_pos (show cIn (.int i) (.list (xs.map .int)) = true from okAll_ints xs i)]
  exact congrArg (fun z => some (PyData.bool z)) (any_ints i xs)
@[simp] theorem cni_it {i : Int} {xs : List Int} : cmpNin (.int i) (.tuple (xs.map .int)) = some (.bool (!decide (i ∈ xs))) := by
  show gCmp cIn (fun d e => !gIn d e) _ _ = _
  unfold gCmp
  rw [if_pos (show cIn (.int i) (.tuple (xs.map .int)) = true from okAll_ints xs i)]
  exact congrArg (fun z => some (PyData.bool (!z))) (any_ints i xs)
@[simp] theorem cni_il {i : Int} {xs : List Int} : cmpNin (.int i) (.list (xs.map .int)) = some (.bool (!decide (i ∈ xs))) := by
  show gCmp cIn (fun d e => !gIn d e) _ _ = _
  unfold gCmp
  rw [if_pos (show cIn (.int i) (.list (xs.map .int)) = true from okAll_ints xs i)]
  exact congrArg (fun z => some (PyData.bool (!z))) (any_ints i xs)
/-! ### built-ins -/
@[simp] theorem ln_l {xs : List D} : gLen [.list xs] = some (.int xs.length) := rfl
@[simp] theorem ln_t {xs : List D} : gLen [.tuple xs] = some (.int xs.length) := rfl
@[simp] theorem gl_all {bs : List Bool} : gAll [.list (bs.map .bool)] = some (.bool (bs.all id)) := by
  show (boolsD (bs.map .bool)).map _ = _
  rw [boolsD_map]; rfl
@[simp] theorem gl_any {bs : List Bool} : gAny [.list (bs.map .bool)] = some (.bool (bs.any id)) := by
  show (boolsD (bs.map .bool)).map _ = _
  rw [boolsD_map]; rfl
theorem gl_all' {α : Type} {xs : List α} {p : α → Bool} : gAll [.list (xs.map fun x => .bool (p x))] = some (.bool (xs.all p)) := by
  have : (xs.map fun x => PyData.bool (p x)) = (xs.map p).map .bool := by simp
  rw [this, gl_all]; simp
theorem gl_any' {α : Type} {xs : List α} {p : α → Bool} : gAny [.list (xs.map fun x => .bool (p x))] = some (.bool (xs.any p)) := by
  have : (xs.map fun x => PyData.bool (p x)) = (xs.map p).map .bool := by simp
  rw [this, gl_any]; simp
@[simp] theorem gl_sum {ns : List Int} : gSum [.list (ns.map .int)] = some (.int ns.sum) := by
  show (intsD (ns.map .int)).map _ = _
  rw [intsD_map]; rfl
@[simp] theorem gl_abs {i : Int} : gAbs [.int i] = some (.int (if i < 0 then -i else i)) := rfl
@[simp] theorem gl_int {i : Int} : gInt [.int i] = some (.int i) := rfl
theorem gl_tupL {xs : List D} (h : frozenL xs = true) : gTupOf [.list xs] = some (.tuple xs) := if_pos h
theorem gl_tupT {xs : List D} (h : frozenL xs = true) : gTupOf [.tuple xs] = some (.tuple xs) := if_pos h
theorem okMM_ints (n : Int) (ns : List Int) : okMM (.int n :: ns.map .int) = true := by
  have e : (PyData.int n :: ns.map .int) = (n :: ns).map .int := rfl
  rw [e]
  unfold okMM alikeB
  simp only [Bool.and_eq_true, List.all_eq_true, decide_eq_true_eq]
  refine ⟨⟨⟨fun x hx y hy => ?_, fun x hx => ?_⟩, fz_ints⟩, ?_⟩
  · obtain ⟨a, _, rfl⟩ := List.mem_map.mp hx
    obtain ⟨b, _, rfl⟩ := List.mem_map.mp hy
    rfl
  · obtain ⟨a, _, rfl⟩ := List.mem_map.mp hx
    rfl
  · refine depthAll_le _ fun x hx => ?_
    obtain ⟨a, _, rfl⟩ := List.mem_map.mp hx
    exact Nat.zero_le _
theorem gl_min {n : Int} {ns : List Int} : gMin [.list (.int n :: ns.map .int)] = some (.int (ns.foldl min n)) := by
  show (if okMM (.int n :: ns.map .int) = true then some (W.minD (.int n) (ns.map .int)) else none) = _
  rw [if_pos (okMM_ints n ns), W.minD_ints]
theorem gl_max {n : Int} {ns : List Int} : gMax [.list (.int n :: ns.map .int)] = some (.int (ns.foldl max n)) := by
  show (if okMM (.int n :: ns.map .int) = true then some (W.maxD (.int n) (ns.map .int)) else none) = _
  rw [if_pos (okMM_ints n ns), W.maxD_ints]
@[simp] theorem gl_min2 {i j : Int} : gMin [.int i, .int j] = some (.int (min i j)) := by
  show some (PyData.int (if j < i then j else i)) = _
  congr 2
  rw [Int.min_def]
  split <;> split <;> omega
@[simp] theorem gl_max2 {i j : Int} : gMax [.int i, .int j] = some (.int (max i j)) := by
  show some (PyData.int (if j > i then j else i)) = _
  congr 2
  rw [Int.max_def]
  split <;> split <;> omega
/-! ### places -/
theorem atI_n {α : Type} {xs : List α} {k : Nat} {v : α} (h : xs[k]? = some v) : atI xs (k : Int) = some v := atI_nat h
theorem ix_t {xs : List D} {k : Nat} {v : D} (h : xs[k]? = some v) : gIx (.tuple xs) (.int k) = some v := atI_n h
theorem ix_l {xs : List D} {k : Nat} {v : D} (h : xs[k]? = some v) : gIx (.list xs) (.int k) = some v := atI_n h
theorem ix_tm {α : Type} {xs : List α} {f : α → D} {k : Nat} {v : α} (h : xs[k]? = some v) : gIx (.tuple (xs.map f)) (.int k) = some (f v) := ix_t (by simp [h])
theorem ix_lm {α : Type} {xs : List α} {f : α → D} {k : Nat} {v : α} (h : xs[k]? = some v) : gIx (.list (xs.map f)) (.int k) = some (f v) := ix_l (by simp [h])
@[simp] theorem ix_t0 {x : D} {xs : List D} : gIx (.tuple (x :: xs)) (.int 0) = some x := ix_t (k := 0) rfl
@[simp] theorem ix_t1 {x y : D} {xs : List D} : gIx (.tuple (x :: y :: xs)) (.int 1) = some y := ix_t (k := 1) rfl
@[simp] theorem ix_t2 {x y z : D} {xs : List D} : gIx (.tuple (x :: y :: z :: xs)) (.int 2) = some z := ix_t (k := 2) rfl
@[simp] theorem ix_l0 {x : D} {xs : List D} : gIx (.list (x :: xs)) (.int 0) = some x := ix_l (k := 0) rfl
@[simp] theorem ix_l1 {x y : D} {xs : List D} : gIx (.list (x :: y :: xs)) (.int 1) = some y := ix_l (k := 1) rfl
@[simp] theorem ix_l2 {x y z : D} {xs : List D} : gIx (.list (x :: y :: z :: xs)) (.int 2) = some z := ix_l (k := 2) rfl
@[simp] theorem ix_l3 {x y z w : D} {xs : List D} : gIx (.list (x :: y :: z :: w :: xs)) (.int 3) = some w := ix_l (k := 3) rfl
@[simp] theorem ix_l4 {x y z w v : D} {xs : List D} : gIx (.list (x :: y :: z :: w :: v :: xs)) (.int 4) = some v := ix_l (k := 4) rfl
/-! ### what is walked -/
@[simp] theorem it_l {xs : List D} : itemsS (.list xs) = some xs := rfl
@[simp] theorem it_t {xs : List D} : itemsS (.tuple xs) = some xs := rfl
theorem rgD_nat (n : Nat) : rgD 0 n = (List.range n).map fun i : Nat => PyData.int (i : Int) := by
  unfold rgD
  simp
theorem rgOk_nat {n : Nat} (h : n ≤ 1000000) : rgOk 0 n = true := by
  rw [rgOk_iff]
  omega
theorem rg1_nat {n : Nat} (h : n ≤ 1000000) : giRg1 [.int n] = some ((List.range n).map fun i : Nat => PyData.int (i : Int)) := by
  show (if rgOk 0 n = true then some (rgD 0 n) else none) = _
  rw [if_pos (rgOk_nat h), rgD_nat]
theorem rg2_of {a b : Int} (h1 : -1000000 ≤ a) (h2 : a ≤ 1000000) (h3 : -1000000 ≤ b) (h4 : b ≤ 1000000) : giRg2 [.int a, .int b] = some ((List.range (b - a).toNat).map fun i : Nat => PyData.int (a + (i : Int))) := by
  show (if rgOk a b = true then some (rgD a b) else none) = _
  rw [if_pos (rgOk_iff.mpr ⟨h1, h2, h3, h4⟩)]
  rfl
theorem enum_map {α : Type} {f : α → D} : ∀ (xs : List α) (k : Nat), enumD k (xs.map f) = (xs.zipIdx k).map fun p => .tuple [.int (p.2 : Int), f p.1]
  | [], _ => rfl
  | x :: xs, k => by
    show _ :: _ = _
    rw [enum_map xs (k + 1)]
    rfl
theorem zip_map {α β : Type} {f : α → D} {g : β → D} : ∀ (xs : List α) (ys : List β), zipD (xs.map f) (ys.map g) = (xs.zip ys).map fun p => .tuple [f p.1, g p.2]
  | [], _ => rfl
  | _ :: _, [] => rfl
  | x :: xs, y :: ys => by
    show _ :: _ = _
    rw [zip_map xs ys]
    rfl
theorem gi_enum {α : Type} {f : α → D} {xs : List α} : giEnum [.tuple (xs.map f)] = some (xs.zipIdx.map fun p => .tuple [.int (p.2 : Int), f p.1]) := by
  show some (enumD 0 (xs.map f)) = _
  rw [enum_map]
theorem gi_enumL {α : Type} {f : α → D} {xs : List α} : giEnum [.list (xs.map f)] = some (xs.zipIdx.map fun p => .tuple [.int (p.2 : Int), f p.1]) := by
  show some (enumD 0 (xs.map f)) = _
  rw [enum_map]
theorem gi_zip {α β : Type} {f : α → D} {g : β → D} {xs : List α} {ys : List β} : giZip [.tuple (xs.map f), .tuple (ys.map g)] = some ((xs.zip ys).map fun p => .tuple [f p.1, g p.2]) := by
  show some (zipD (xs.map f) (ys.map g)) = _
  rw [zip_map]
theorem gi_zipLT {α β : Type} {f : α → D} {g : β → D} {xs : List α} {ys : List β} : giZip [.list (xs.map f), .tuple (ys.map g)] = some ((xs.zip ys).map fun p => .tuple [f p.1, g p.2]) := by
  show some (zipD (xs.map f) (ys.map g)) = _
  rw [zip_map]
/-! ### comprehensions -/
theorem lcMap {α : Type} {b : Bd} {el : FE} {ε : En} {f : α → D} {h : α → D} : ∀ {xs : List α}, (∀ x ∈ xs, (b (f x) ε).bind el = some (h x)) → compL b bTrue el ε (xs.map f) = some (xs.map h)
  | [], _ => rfl
  | x :: xs, hx => by
    obtain ⟨ε1, q1, q2⟩ := bindSome (hx x List.mem_cons_self)
    show (b (f x) ε).bind _ = _
    rw [q1]
    show (el ε1).bind _ = _
    rw [q2]
    show (compL b bTrue el ε (xs.map f)).map _ = _
    rw [lcMap fun y hy => hx y (List.mem_cons_of_mem _ hy)]
    rfl
theorem lcFilter {α : Type} {b : Bd} {tt : En → Option Bool} {el : FE} {ε : En} {f : α → D} {p : α → Bool} {h : α → D} : ∀ {xs : List α}, (∀ x ∈ xs, (b (f x) ε).bind (fun ε1 => (tt ε1).bind fun c => if c then (el ε1).map fun y => (c, y) else some (c, .none)) = some (p x, if p x then h x else .none)) → compL b tt el ε (xs.map f) = some ((xs.filter p).map h)
  | [], _ => rfl
  | x :: xs, hx => by
    obtain ⟨ε1, q1, q2⟩ := bindSome (hx x List.mem_cons_self)
    obtain ⟨c, q3, q4⟩ := bindSome q2
    have ih := lcFilter (b := b) (tt := tt) (el := el) (ε := ε) (f := f) (p := p) (h := h) (xs := xs) fun y hy => hx y (List.mem_cons_of_mem _ hy)
    show (b (f x) ε).bind _ = _
    rw [q1]
    show (tt ε1).bind _ = _
    rw [q3]
    show (if c = true then _ else _) = _
    cases c with
    | true =>
      rw [if_pos rfl] at q4 ⊢
      obtain ⟨y, q5, q6⟩ := Option.map_eq_some_iff.mp q4
      have e1 : p x = true := (Prod.mk.inj q6).1.symm
      have e2 : y = h x := by have := (Prod.mk.inj q6).2; rw [e1] at this; simpa using this
      rw [q5]
      show (compL b tt el ε (xs.map f)).map _ = _
      rw [ih, List.filter_cons_of_pos e1, e2]
      rfl
    | false =>
      rw [if_neg Bool.false_ne_true] at q4 ⊢
      have e1 : p x = false := (Prod.mk.inj (Option.some.inj q4)).1.symm
      rw [ih, List.filter_cons_of_neg (by rw [e1]; decide)]
/-- one turn of a comprehension whose parts may change things -/
theorem compM_nil {vs : List Nat} {b : Bd} {mt : En → Option (Bool × En)} {me : FM} {ε : En} : compM vs b mt me [] ε = some ([], ε) := rfl
theorem compM_cons {vs : List Nat} {b : Bd} {mt : En → Option (Bool × En)} {me : FM} {ε : En} {d : D} {ds : List D} : compM vs b mt me (d :: ds) ε = (b d ε).bind fun ε1 => (mt ε1).bind fun x => if x.1 then (me x.2).bind fun y => if y.2.length = ε.length then (compM vs b mt me ds (wipeE y.2 vs)).map fun z => (y.1 :: z.1, z.2) else none else if x.2.length = ε.length then compM vs b mt me ds (wipeE x.2 vs) else none := rfl
/-! ### contracts by cases -/
section
open Classical
noncomputable def gOf {α : Type} (f : α → List D) (dom : α → Prop) (r : α → D) : List D → Option D := fun ds => if h : ∃ a, dom a ∧ ds = f a then some (r h.choose) else none
theorem gOf_inv {α : Type} {f : α → List D} {dom : α → Prop} {r : α → D} {ds : List D} {d : D} (h : gOf f dom r ds = some d) : ∃ a, dom a ∧ ds = f a ∧ d = r a := by
  unfold gOf at h
  split at h
  · rename_i hx
    cases h
    exact ⟨hx.choose, hx.choose_spec.1, hx.choose_spec.2, rfl⟩
  · cases h
theorem gOf_eq {α : Type} {f : α → List D} {dom : α → Prop} {r : α → D} (inj : ∀ a b, f a = f b → r a = r b) {a : α} (h : dom a) : gOf f dom r (f a) = some (r a) := by
  unfold gOf
  have hx : ∃ b, dom b ∧ f a = f b := ⟨a, h, rfl⟩
  rw [dif_pos hx, inj _ _ hx.choose_spec.2]
noncomputable def gOfI {α : Type} (f : α → List D) (dom : α → Prop) (r : α → D × D) : List D → Option (D × D) := fun ds => if h : ∃ a, dom a ∧ ds = f a then some (r h.choose) else none
theorem gOfI_inv {α : Type} {f : α → List D} {dom : α → Prop} {r : α → D × D} {ds : List D} {d : D × D} (h : gOfI f dom r ds = some d) : ∃ a, dom a ∧ ds = f a ∧ d = r a := by
  unfold gOfI at h
  split at h
  · rename_i hx
    cases h
    exact ⟨hx.choose, hx.choose_spec.1, hx.choose_spec.2, rfl⟩
  · cases h
theorem gOfI_eq {α : Type} {f : α → List D} {dom : α → Prop} {r : α → D × D} (inj : ∀ a b, f a = f b → r a = r b) {a : α} (h : dom a) : gOfI f dom r (f a) = some (r a) := by
  unfold gOfI
  have hx : ∃ b, dom b ∧ f a = f b := ⟨a, h, rfl⟩
  rw [dif_pos hx, inj _ _ hx.choose_spec.2]
end
theorem ints_inj : ∀ {xs ys : List Int}, xs.map PyData.int = ys.map PyData.int → xs = ys
  | [], [], _ => rfl
  | [], _ :: _, h => by simp at h
  | _ :: _, [], h => by simp at h
  | x :: xs, y :: ys, h => by
    rw [List.map_cons, List.map_cons] at h
    injection h with h1 h2
    injection h1 with h1
    rw [h1, ints_inj h2]
end Pd

set_option Elab.async false
set_option linter.all false
set_option maxRecDepth 100000
set_option maxHeartbeats 4000000
/-! Pd15: a law's own end. -/
namespace Pd
open PySem PySem.Spec PyProof.Rows L2
section
variable {P : Program} {w : World} {K : PySem.W.Frag} {mg : Str → Option Value} {base : Heap} {x qual y : Str} {st : Stmt} {f : Addr} {fd : FuncData} {N ps : List Str} {k : Nat}
theorem okP {g : List D → Option D} {sem : FS} (F : Fun K x qual st f fd) (S : FnScope N ps (defScope st))
    (body : ∀ (cdv : Value) (A : Around) (outer : List Env) (s : Shared) (H : Hp) (E : XK), Room k (A.deeper (envOfC qual (defScope st) s.heap.objs.size f cdv)) → ∃ t, SSs (cxOf CX0 P w K mg base N qual (defScope st) f cdv A outer s H E).nox (defBody st) t sem)
    (law : ∀ ds d, ds.length = ps.length → g ds = some d → sem (seP d) (envP ds (N.length - ps.length))) : FnOk P w K mg base CX0 (k + 1) f fd ps (spP K ps.length g) := by
  refine F.ok S (fun vs H Q E ⟨ds, d, r, hl, _⟩ => by rw [r.length]; exact hl) fun cdv A outer s H vs Q E hr ⟨ds, d, r, hl, hg, k⟩ => ?_
  obtain ⟨t, hs⟩ := body cdv A outer s H E hr
  refine ⟨t, hs.ps, ?_⟩
  have o := Ok.init (m := N.length - ps.length) r
  have e : L2.start N vs = stP vs (N.length - ps.length) := by
    unfold L2.start stP
    rw [r.length, hl]
  rw [e]
  refine hs.so none H _ _ H (seP d) _ o ⟨?_, ?_, ?_, ?_⟩ (law ds d hl hg)
  · intro B' ε σ H' e o' q
    have q : d = .none := q
    subst q
    exact k .non H' (e.trans o'.sm) (newNon.back (e.trans o'.sm))
  · intro B' v d' ε σ H' e o' q
    have q : d' = d := q
    subst q
    obtain ⟨fp, rp, nd, hf⟩ := o'.own
    refine k v H' (e.trans o'.sm) ?_
    cases rp with
    | @cons _ _ _ f g r _ =>
      exact ⟨f, r, (List.nodup_append.mp nd).1, fun a ha => Sm.free e (hf a (List.mem_append_left _ ha))⟩
  · intro B' ε σ H' e o' q; exact q.elim
  · intro B' ε σ H' e o' q; exact q.elim
theorem fun_of {dvs : List V} {kws : List (Str × V)} (F : FunD K x qual (defArgs st) (defBody st) (defScope st) dvs kws f fd) (h : dvs = []) : Fun K x qual st f fd := by
  obtain ⟨oc, od, dV, kV, doc, pm, an, cdv, ct, osl, rfl, lk, hcd, hD, hK⟩ := F.ex
  rcases hD with ⟨_, rfl⟩ | ⟨e, _⟩
  · exact ⟨⟨oc, od, kV, doc, pm, an, cdv, ct, osl, rfl, lk, hcd⟩, F.kp⟩
  · exact absurd h e
theorem repI {H : Hp} : ∀ ns : List Int, RepL K H (ns.map V.int) (ns.map .int)
  | [] => .nil
  | n :: ns => .cons (.int n) (repI ns)
/-- what a law asks of its call -/
theorem law_says {g : List D → Option D} {n : Nat} (hg : ∀ ns : List Int, ns.length ≤ n → g [.dict [(.bool true, .list (ns.map .int))]] = some (.bool true)) : ∀ (H : Hp) (a : Addr) (ns : List Int), ns.length ≤ n → Only H → SqL K H a (ns.map V.int) → spP K 1 g [.ref a] H (fun v _ => v = .bl true) fun _ _ _ => False :=
  fun H a ns hl _ hS => ⟨[.dict [(.bool true, .list (ns.map .int))]], .bool true, .cons (.scr hS (repI ns)) .nil, rfl, hg ns hl, fun v H' _ nw => by
    obtain ⟨fp, r, _⟩ := nw
    cases r
    rfl⟩
end
end Pd

set_option Elab.async false
set_option linter.all false
set_option maxRecDepth 100000
set_option maxHeartbeats 4000000
namespace Gen
open PySem PySem.Spec PyProof.Rows L2 Pd
def topS (i : Nat) : Stmt := PySem.Challenge.pw_mendgarage_k97_whole_services_as_wheels.main.body.getD i (.Pass ⟨0, 0, 0, 0⟩)
section
variable {P : Program} {w : World} {K : PySem.W.Frag} {mg : Str → Option Value} {base : Heap}
abbrev s_law_hand : Stmt := topS 52
abbrev N_law_hand : List Str := ["script", "cells", "cell"]
theorem sc_law_hand : FnScope N_law_hand ["script"] (defScope s_law_hand) := ⟨rfl, rfl, rfl, by decide +kernel, rfl, by decide +kernel, by decide +kernel⟩
noncomputable def m_law_hand  : FS := (sSeq (sSet 1 (mP (eLc [2] (iSelf (eSl (eVar 0) oNone (oSome (eC (.int 63))))) (bName 2) bTrue (e2 gMod (eCall gInt (aCons (eCall gAbs (aCons (eCall gInt (aCons (eVar 2) aNil)) aNil)) aNil)) (e2 gPow (eC (.int 10)) (eC (.int 36)))))))
  (sRet (mLstOwn 1 (aCons (eC (.int 0)) (aCons (eC (.int 0)) (aCons (e2 gAdd (eC (.int 211)) (e2 gMul (eC (.int 7)) (eCall gLen (aCons (eVar 1) aNil)))) (aCons (eC (.int 0)) aNil)))))))
theorem F_law_hand {f : Addr} {fd : FuncData} (F : Fun K "_law_hand" "_law_hand" s_law_hand f fd) (hb : L2.Binds K fd ["script"] []) (hm : mg "_law_hand" = some (.ref f)) (z_len : mg "len" = none) (z_int : mg "int" = none) (z_abs : mg "abs" = none)
    {g : List D → Option D} (law : ∀ ds d, ds.length = 1 → g ds = some d → m_law_hand  (seP d) (envP ds 2)) : FnD P w K mg base "_law_hand" 1 (spP K 1 g) := by
  refine fnP (k := 0) F sc_law_hand hb hm (fun cdv A outer s H E hr => ?_) law
  have hu := hu64 hr
  have hu1 := hu_of hr
  have nd := sc_law_hand.nd
  exact ⟨_, (ss_cons (ss_setLc (i := 1) (own := [("cell", 2)]) nd (pi_self (PF.pp (pf_sl (pv' 0) or_none (or_some (PF.pp pk_int))))) (blkOk_by (own := [("cell", 2)]) (N := N_law_hand) (sc := defScope s_law_hand) (by decide +kernel)) (fun _ _ _ _ _ => (gt_name 2 nd)) (fun _ _ _ _ _ => ts_nil) (fun _ _ _ _ _ => (pf_op o_mod (PF.pp (pf_ct c_int z_int (ar_cons (PF.pp (pf_cb (c_abs) z_abs (ar_cons (PF.pp (pf_ct c_int z_int (ar_cons (pv' 2) ar_nil))) ar_nil))) ar_nil))) (PF.pp (pf_op o_pow (PF.pp pk_int) (PF.pp pk_int))))) (sw_true rfl rfl rfl (by decide +kernel)))
    (ss_one (ss_ret (mm_lstOwn (i := 1) (ar_cons (PF.pp pk_int) (ar_cons (PF.pp pk_int) (ar_cons (PF.pp (pf_op o_add (PF.pp pk_int) (PF.pp (pf_op o_mul (PF.pp pk_int) (PF.pp (pf_cb (c_len) z_len (ar_cons (pv' 1) ar_nil))))))) (ar_cons (PF.pp pk_int) ar_nil))))))))⟩
abbrev s_is_integer : Stmt := topS 1
abbrev N_is_integer : List Str := ["thing"]
theorem sc_is_integer : FnScope N_is_integer ["thing"] (defScope s_is_integer) := ⟨rfl, rfl, rfl, by decide +kernel, rfl, by decide +kernel, by decide +kernel⟩
noncomputable def m_is_integer  : FS := (sRet (mP (eAnd (e1 (gIsa "int") (eVar 0)) (eNot (e1 (gIsa "bool") (eVar 0))))))
theorem F_is_integer {f : Addr} {fd : FuncData} (F : Fun K "is_integer" "is_integer" s_is_integer f fd) (hb : L2.Binds K fd ["thing"] []) (hm : mg "is_integer" = some (.ref f)) (z_isinstance : mg "isinstance" = none) (z_bool : mg "bool" = none) (z_int : mg "int" = none)
    {g : List D → Option D} (law : ∀ ds d, ds.length = 1 → g ds = some d → m_is_integer  (seP d) (envP ds 0)) : FnD P w K mg base "is_integer" 1 (spP K 1 g) := by
  refine fnP (k := 0) F sc_is_integer hb hm (fun cdv A outer s H E hr => ?_) law
  have hu := hu64 hr
  have hu1 := hu_of hr
  have nd := sc_is_integer.nd
  exact ⟨_, (ss_one (ss_ret (mm_pf (pf_and (PF.pp (pf_isa z_isinstance z_int (pv' 0))) (pf_one (pf_not (PF.pp (pf_isa z_isinstance z_bool (pv' 0)))))))))⟩
abbrev s_is_within : Stmt := topS 2
abbrev N_is_within : List Str := ["thing", "least", "most"]
theorem sc_is_within : FnScope N_is_within ["thing", "least", "most"] (defScope s_is_within) := ⟨rfl, rfl, rfl, by decide +kernel, rfl, by decide +kernel, by decide +kernel⟩
noncomputable def m_is_within (g_is_integer : List D → Option D) : FS := (sRet (mP (eAnd (eFn 1 g_is_integer (aCons (eVar 0) aNil)) (eChain cmpLe cmpLe (eVar 1) (eVar 0) (eVar 2)))))
theorem F_is_within {f : Addr} {fd : FuncData} (F : Fun K "is_within" "is_within" s_is_within f fd) (hb : L2.Binds K fd ["thing", "least", "most"] []) (hm : mg "is_within" = some (.ref f)) {g_is_integer : List D → Option D} (F_is_integer : FnD P w K mg base "is_integer" 1 (spP K 1 g_is_integer))
    {g : List D → Option D} (law : ∀ ds d, ds.length = 3 → g ds = some d → m_is_within g_is_integer (seP d) (envP ds 0)) : FnD P w K mg base "is_within" 2 (spP K 3 g) := by
  refine fnP (k := 1) F sc_is_within hb hm (fun cdv A outer s H E hr => ?_) law
  have hu := hu64 hr
  have hu1 := hu_of hr
  have nd := sc_is_within.nd
  exact ⟨_, (ss_one (ss_ret (mm_pf (pf_and (PF.pp (pf_fn F_is_integer (hr.mono (by decide)) (ar_cons (pv' 0) ar_nil))) (pf_one (pf_chain (o_le hu) (o_le hu) (pv' 1) (pv' 0) (pv' 2)))))))⟩
abbrev s_is_row : Stmt := topS 3
abbrev N_is_row : List Str := ["thing", "many", "least", "most", "one"]
theorem sc_is_row : FnScope N_is_row ["thing", "many", "least", "most"] (defScope s_is_row) := ⟨rfl, rfl, rfl, by decide +kernel, rfl, by decide +kernel, by decide +kernel⟩
noncomputable def m_is_row (g_is_within : List D → Option D) : FS := (sSeq (sIf (mT (bOr (bNot (tst (e1 (gIsa "tuple") (eVar 0)))) (tst (e2 cmpNe (eCall gLen (aCons (eVar 0) aNil)) (eVar 1))))) (sRet (mP (eC (.bool false)))) sNext)
  (sRet (mP (eCall gAll (aCons (eLc [4] (iSelf (eVar 0)) (bName 4) bTrue (eFn 3 g_is_within (aCons (eVar 4) (aCons (eVar 2) (aCons (eVar 3) aNil))))) aNil)))))
theorem F_is_row {f : Addr} {fd : FuncData} (F : Fun K "is_row" "is_row" s_is_row f fd) (hb : L2.Binds K fd ["thing", "many", "least", "most"] []) (hm : mg "is_row" = some (.ref f)) (z_all : mg "all" = none) (z_len : mg "len" = none) (z_isinstance : mg "isinstance" = none) (z_tuple : mg "tuple" = none) {g_is_within : List D → Option D} (F_is_within : FnD P w K mg base "is_within" 2 (spP K 3 g_is_within))
    {g : List D → Option D} (law : ∀ ds d, ds.length = 4 → g ds = some d → m_is_row g_is_within (seP d) (envP ds 1)) : FnD P w K mg base "is_row" 3 (spP K 4 g) := by
  refine fnP (k := 2) F sc_is_row hb hm (fun cdv A outer s H E hr => ?_) law
  have hu := hu64 hr
  have hu1 := hu_of hr
  have nd := sc_is_row.nd
  exact ⟨_, (ss_cons (ss_if (mt_pt (PWt.pt (tw_or (tt_not (tt_val (PF.pp (pf_isa z_isinstance z_tuple (pv' 0))))) (tw_or1 (tt_cmp (o_ne hu) (PF.pp (pf_cb (c_len) z_len (ar_cons (pv' 0) ar_nil))) (pv' 1)))))) (ss_one (ss_ret (mm_pf pk_bl))) ss_nil)
    (ss_one (ss_ret (mm_pf (pf_cb (c_all) z_all (ar_cons (PF.pp (pf_lc (own := [("one", 4)]) nd (pi_self (pv' 0)) (blkOk_by (own := [("one", 4)]) (N := N_is_row) (sc := defScope s_is_row) (by decide +kernel)) (fun _ _ _ _ _ => (gt_name 4 nd)) (fun _ _ _ _ _ => ts_nil) (fun _ _ _ _ _ => (pf_fn F_is_within (hr.mono (by decide)) (ar_cons (pv' 4) (ar_cons (pv' 2) (ar_cons (pv' 3) ar_nil))))))) ar_nil))))))⟩
abbrev s_is_some : Stmt := topS 4
abbrev N_is_some : List Str := ["thing", "fewest", "most", "floor", "roof"]
theorem sc_is_some : FnScope N_is_some ["thing", "fewest", "most", "floor", "roof"] (defScope s_is_some) := ⟨rfl, rfl, rfl, by decide +kernel, rfl, by decide +kernel, by decide +kernel⟩
noncomputable def m_is_some (g_is_row : List D → Option D) : FS := (sRet (mP (eAnd (e1 (gIsa "tuple") (eVar 0)) (eAnd (eChain cmpLe cmpLe (eVar 1) (eCall gLen (aCons (eVar 0) aNil)) (eVar 2)) (eFn 4 g_is_row (aCons (eVar 0) (aCons (eCall gLen (aCons (eVar 0) aNil)) (aCons (eVar 3) (aCons (eVar 4) aNil)))))))))
theorem F_is_some {f : Addr} {fd : FuncData} (F : Fun K "is_some" "is_some" s_is_some f fd) (hb : L2.Binds K fd ["thing", "fewest", "most", "floor", "roof"] []) (hm : mg "is_some" = some (.ref f)) (z_len : mg "len" = none) (z_isinstance : mg "isinstance" = none) (z_tuple : mg "tuple" = none) {g_is_row : List D → Option D} (F_is_row : FnD P w K mg base "is_row" 3 (spP K 4 g_is_row))
    {g : List D → Option D} (law : ∀ ds d, ds.length = 5 → g ds = some d → m_is_some g_is_row (seP d) (envP ds 0)) : FnD P w K mg base "is_some" 4 (spP K 5 g) := by
  refine fnP (k := 3) F sc_is_some hb hm (fun cdv A outer s H E hr => ?_) law
  have hu := hu64 hr
  have hu1 := hu_of hr
  have nd := sc_is_some.nd
  exact ⟨_, (ss_one (ss_ret (mm_pf (pf_and (PF.pp (pf_isa z_isinstance z_tuple (pv' 0))) (pf_and (PF.pp (pf_chain (o_le hu) (o_le hu) (pv' 1) (PF.pp (pf_cb (c_len) z_len (ar_cons (pv' 0) ar_nil))) (pv' 2))) (pf_one (pf_fn F_is_row (hr.mono (by decide)) (ar_cons (pv' 0) (ar_cons (PF.pp (pf_cb (c_len) z_len (ar_cons (pv' 0) ar_nil))) (ar_cons (pv' 3) (ar_cons (pv' 4) ar_nil)))))))))))⟩
abbrev s_is_belt : Stmt := topS 14
abbrev N_is_belt : List Str := ["thing"]
theorem sc_is_belt : FnScope N_is_belt ["thing"] (defScope s_is_belt) := ⟨rfl, rfl, rfl, by decide +kernel, rfl, by decide +kernel, by decide +kernel⟩
noncomputable def m_is_belt (g_is_some : List D → Option D) : FS := (sRet (mP (eFn 5 g_is_some (aCons (eVar 0) (aCons (eC (.int 1)) (aCons (eC (.int 6)) (aCons (eC (.int 2)) (aCons (eC (.int 400)) aNil))))))))
theorem F_is_belt {f : Addr} {fd : FuncData} (F : Fun K "is_belt" "is_belt" s_is_belt f fd) (hb : L2.Binds K fd ["thing"] []) (hm : mg "is_belt" = some (.ref f)) {g_is_some : List D → Option D} (F_is_some : FnD P w K mg base "is_some" 4 (spP K 5 g_is_some))
    {g : List D → Option D} (law : ∀ ds d, ds.length = 1 → g ds = some d → m_is_belt g_is_some (seP d) (envP ds 0)) : FnD P w K mg base "is_belt" 5 (spP K 1 g) := by
  refine fnP (k := 4) F sc_is_belt hb hm (fun cdv A outer s H E hr => ?_) law
  have hu := hu64 hr
  have hu1 := hu_of hr
  have nd := sc_is_belt.nd
  exact ⟨_, (ss_one (ss_ret (mm_pf (pf_fn F_is_some (hr.mono (by decide)) (ar_cons (pv' 0) (ar_cons (PF.pp pk_int) (ar_cons (PF.pp pk_int) (ar_cons (PF.pp pk_int) (ar_cons (PF.pp pk_int) ar_nil)))))))))⟩
abbrev s_check_belt : Stmt := topS 15
abbrev N_check_belt : List Str := ["belt"]
theorem sc_check_belt : FnScope N_check_belt ["belt"] (defScope s_check_belt) := ⟨rfl, rfl, rfl, by decide +kernel, rfl, by decide +kernel, by decide +kernel⟩
noncomputable def m_check_belt (g_is_belt : List D → Option D) : FS := (sIf (mT (bNot (tst (eFn 1 g_is_belt (aCons (eVar 0) aNil))))) sNever sNext)
theorem F_check_belt {f : Addr} {fd : FuncData} (F : Fun K "check_belt" "check_belt" s_check_belt f fd) (hb : L2.Binds K fd ["belt"] []) (hm : mg "check_belt" = some (.ref f)) {g_is_belt : List D → Option D} (F_is_belt : FnD P w K mg base "is_belt" 5 (spP K 1 g_is_belt))
    {g : List D → Option D} (law : ∀ ds d, ds.length = 1 → g ds = some d → m_check_belt g_is_belt (seP d) (envP ds 0)) : FnD P w K mg base "check_belt" 6 (spP K 1 g) := by
  refine fnP (k := 5) F sc_check_belt hb hm (fun cdv A outer s H E hr => ?_) law
  have hu := hu64 hr
  have hu1 := hu_of hr
  have nd := sc_check_belt.nd
  exact ⟨_, (ss_one (ss_if (mt_pt (tt_not (tt_val (PF.pp (pf_fn F_is_belt (hr.mono (by decide)) (ar_cons (pv' 0) ar_nil)))))) (ss_one ss_never) ss_nil))⟩
abbrev s_shared : Stmt := topS 5
abbrev N_shared : List Str := ["one", "other"]
theorem sc_shared : FnScope N_shared ["one", "other"] (defScope s_shared) := ⟨rfl, rfl, rfl, by decide +kernel, rfl, by decide +kernel, by decide +kernel⟩
noncomputable def m_shared  : FS := (sSeq (sPar 0 1 (mP (eCall gAbs (aCons (eVar 0) aNil))) (mP (eCall gAbs (aCons (eVar 1) aNil))))
  (sSeq (sWhile (mT (tst (e2 cmpGt (eVar 1) (eC (.int 0))))) (sPar 0 1 (mVar 1) (mP (e2 gMod (eVar 0) (eVar 1)))))
  (sRet (mVar 0))))
theorem F_shared {f : Addr} {fd : FuncData} (F : Fun K "shared" "shared" s_shared f fd) (hb : L2.Binds K fd ["one", "other"] []) (hm : mg "shared" = some (.ref f)) (z_abs : mg "abs" = none)
    {g : List D → Option D} (law : ∀ ds d, ds.length = 2 → g ds = some d → m_shared  (seP d) (envP ds 0)) : FnD P w K mg base "shared" 1 (spP K 2 g) := by
  refine fnP (k := 0) F sc_shared hb hm (fun cdv A outer s H E hr => ?_) law
  have hu := hu64 hr
  have hu1 := hu_of hr
  have nd := sc_shared.nd
  exact ⟨_, (ss_cons (ss_par (i := 0) (j := 1) nd (mm_pf (pf_cb (c_abs) z_abs (ar_cons (pv' 0) ar_nil))) (mm_pf (pf_cb (c_abs) z_abs (ar_cons (pv' 1) ar_nil))))
    (ss_cons (ss_while (mt_pt (tt_cmp (o_gt hu) (pv' 1) (PF.pp pk_int))) (ss_one (ss_par (i := 0) (j := 1) nd (mm_var 1) (mm_pf (pf_op o_mod (pv' 0) (pv' 1))))))
    (ss_one (ss_ret (mm_var 0)))))⟩
abbrev s_round_of : Stmt := topS 20
abbrev N_round_of : List Str := ["belt", "found", "teeth"]
theorem sc_round_of : FnScope N_round_of ["belt"] (defScope s_round_of) := ⟨rfl, rfl, rfl, by decide +kernel, rfl, by decide +kernel, by decide +kernel⟩
noncomputable def m_round_of (g_shared : List D → Option D) (g_check_belt : List D → Option D) : FS := (sSeq (sExpr (mP (eFn 1 g_check_belt (aCons (eVar 0) aNil))))
  (sSeq (sSet 1 (mP (eC (.int 1))))
  (sSeq (sFor (miSelf (mLend 0)) (bbName 2) (sSet 1 (mP (e2 gFdiv (e2 gMul (eVar 1) (eVar 2)) (eFn 2 g_shared (aCons (eVar 1) (aCons (eVar 2) aNil)))))))
  (sRet (mVar 1)))))
theorem F_round_of {f : Addr} {fd : FuncData} (F : Fun K "round_of" "round_of" s_round_of f fd) (hb : L2.Binds K fd ["belt"] []) (hm : mg "round_of" = some (.ref f)) {g_shared : List D → Option D} (F_shared : FnD P w K mg base "shared" 1 (spP K 2 g_shared)) {g_check_belt : List D → Option D} (F_check_belt : FnD P w K mg base "check_belt" 6 (spP K 1 g_check_belt))
    {g : List D → Option D} (law : ∀ ds d, ds.length = 1 → g ds = some d → m_round_of g_shared g_check_belt (seP d) (envP ds 2)) : FnD P w K mg base "round_of" 7 (spP K 1 g) := by
  refine fnP (k := 6) F sc_round_of hb hm (fun cdv A outer s H E hr => ?_) law
  have hu := hu64 hr
  have hu1 := hu_of hr
  have nd := sc_round_of.nd
  exact ⟨_, (ss_cons (ss_expr (mm_pf (pf_fn F_check_belt (hr.mono (by decide)) (ar_cons (pv' 0) ar_nil))))
    (ss_cons (ss_set (i := 1) nd (mm_pf pk_int))
    (ss_cons (ss_for (mi_self (mv_var 0)) (bg_name 2 nd) (ss_one (ss_set (i := 1) nd (mm_pf (pf_op o_fdiv (PF.pp (pf_op o_mul (pv' 1) (pv' 2))) (PF.pp (pf_fn F_shared (hr.mono (by decide)) (ar_cons (pv' 1) (ar_cons (pv' 2) ar_nil)))))))))
    (ss_one (ss_ret (mm_var 1))))))⟩
abbrev s_check_moved : Stmt := topS 17
abbrev N_check_moved : List Str := ["moved"]
theorem sc_check_moved : FnScope N_check_moved ["moved"] (defScope s_check_moved) := ⟨rfl, rfl, rfl, by decide +kernel, rfl, by decide +kernel, by decide +kernel⟩
noncomputable def m_check_moved (g_is_within : List D → Option D) : FS := (sIf (mT (bNot (tst (eFn 3 g_is_within (aCons (eVar 0) (aCons (eC (.int 0)) (aCons (e2 gPow (eC (.int 10)) (eC (.int 20))) aNil))))))) sNever sNext)
theorem F_check_moved {f : Addr} {fd : FuncData} (F : Fun K "check_moved" "check_moved" s_check_moved f fd) (hb : L2.Binds K fd ["moved"] []) (hm : mg "check_moved" = some (.ref f)) {g_is_within : List D → Option D} (F_is_within : FnD P w K mg base "is_within" 2 (spP K 3 g_is_within))
    {g : List D → Option D} (law : ∀ ds d, ds.length = 1 → g ds = some d → m_check_moved g_is_within (seP d) (envP ds 0)) : FnD P w K mg base "check_moved" 3 (spP K 1 g) := by
  refine fnP (k := 2) F sc_check_moved hb hm (fun cdv A outer s H E hr => ?_) law
  have hu := hu64 hr
  have hu1 := hu_of hr
  have nd := sc_check_moved.nd
  exact ⟨_, (ss_one (ss_if (mt_pt (tt_not (tt_val (PF.pp (pf_fn F_is_within (hr.mono (by decide)) (ar_cons (pv' 0) (ar_cons (PF.pp pk_int) (ar_cons (PF.pp (pf_op o_pow (PF.pp pk_int) (PF.pp pk_int))) ar_nil)))))))) (ss_one ss_never) ss_nil))⟩
abbrev s_marks_after : Stmt := topS 18
abbrev N_marks_after : List Str := ["belt", "moved", "teeth"]
theorem sc_marks_after : FnScope N_marks_after ["belt", "moved"] (defScope s_marks_after) := ⟨rfl, rfl, rfl, by decide +kernel, rfl, by decide +kernel, by decide +kernel⟩
noncomputable def m_marks_after (g_check_moved : List D → Option D) (g_check_belt : List D → Option D) : FS := (sSeq (sExpr (mP (eFn 1 g_check_belt (aCons (eVar 0) aNil))))
  (sSeq (sExpr (mP (eFn 1 g_check_moved (aCons (eVar 1) aNil))))
  (sRet (mP (eCall gTupOf (aCons (eLc [2] (iSelf (eVar 0)) (bName 2) bTrue (e2 gMod (eVar 1) (eVar 2))) aNil))))))
theorem F_marks_after {f : Addr} {fd : FuncData} (F : Fun K "marks_after" "marks_after" s_marks_after f fd) (hb : L2.Binds K fd ["belt", "moved"] []) (hm : mg "marks_after" = some (.ref f)) (z_tuple : mg "tuple" = none) {g_check_moved : List D → Option D} (F_check_moved : FnD P w K mg base "check_moved" 3 (spP K 1 g_check_moved)) {g_check_belt : List D → Option D} (F_check_belt : FnD P w K mg base "check_belt" 6 (spP K 1 g_check_belt))
    {g : List D → Option D} (law : ∀ ds d, ds.length = 2 → g ds = some d → m_marks_after g_check_moved g_check_belt (seP d) (envP ds 1)) : FnD P w K mg base "marks_after" 7 (spP K 2 g) := by
  refine fnP (k := 6) F sc_marks_after hb hm (fun cdv A outer s H E hr => ?_) law
  have hu := hu64 hr
  have hu1 := hu_of hr
  have nd := sc_marks_after.nd
  exact ⟨_, (ss_cons (ss_expr (mm_pf (pf_fn F_check_belt (hr.mono (by decide)) (ar_cons (pv' 0) ar_nil))))
    (ss_cons (ss_expr (mm_pf (pf_fn F_check_moved (hr.mono (by decide)) (ar_cons (pv' 1) ar_nil))))
    (ss_one (ss_ret (mm_pf (pf_ct c_tuple z_tuple (ar_cons (PF.pp (pf_lc (own := [("teeth", 2)]) nd (pi_self (pv' 0)) (blkOk_by (own := [("teeth", 2)]) (N := N_marks_after) (sc := defScope s_marks_after) (by decide +kernel)) (fun _ _ _ _ _ => (gt_name 2 nd)) (fun _ _ _ _ _ => ts_nil) (fun _ _ _ _ _ => (pf_op o_mod (pv' 1) (pv' 2))))) ar_nil)))))))⟩
abbrev s_marks_all : Stmt := topS 30
abbrev N_marks_all : List Str := ["belt", "many", "moved"]
theorem sc_marks_all : FnScope N_marks_all ["belt", "many"] (defScope s_marks_all) := ⟨rfl, rfl, rfl, by decide +kernel, rfl, by decide +kernel, by decide +kernel⟩
noncomputable def m_marks_all (g_marks_after : List D → Option D) (g_is_within : List D → Option D) (g_check_belt : List D → Option D) : FS := (sSeq (sExpr (mP (eFn 1 g_check_belt (aCons (eVar 0) aNil))))
  (sSeq (sIf (mT (bNot (tst (eFn 3 g_is_within (aCons (eVar 1) (aCons (eC (.int 0)) (aCons (eC (.int 400)) aNil))))))) sNever sNext)
  (sRet (mP (eLc [2] (iOf giRg1 (aCons (eVar 1) aNil)) (bName 2) bTrue (eFn 2 g_marks_after (aCons (eVar 0) (aCons (eVar 2) aNil))))))))
theorem F_marks_all {f : Addr} {fd : FuncData} (F : Fun K "marks_all" "marks_all" s_marks_all f fd) (hb : L2.Binds K fd ["belt", "many"] []) (hm : mg "marks_all" = some (.ref f)) (z_range : mg "range" = none) {g_marks_after : List D → Option D} (F_marks_after : FnD P w K mg base "marks_after" 7 (spP K 2 g_marks_after)) {g_is_within : List D → Option D} (F_is_within : FnD P w K mg base "is_within" 2 (spP K 3 g_is_within)) {g_check_belt : List D → Option D} (F_check_belt : FnD P w K mg base "check_belt" 6 (spP K 1 g_check_belt))
    {g : List D → Option D} (law : ∀ ds d, ds.length = 2 → g ds = some d → m_marks_all g_marks_after g_is_within g_check_belt (seP d) (envP ds 1)) : FnD P w K mg base "marks_all" 8 (spP K 2 g) := by
  refine fnP (k := 7) F sc_marks_all hb hm (fun cdv A outer s H E hr => ?_) law
  have hu := hu64 hr
  have hu1 := hu_of hr
  have nd := sc_marks_all.nd
  exact ⟨_, (ss_cons (ss_expr (mm_pf (pf_fn F_check_belt (hr.mono (by decide)) (ar_cons (pv' 0) ar_nil))))
    (ss_cons (ss_if (mt_pt (tt_not (tt_val (PF.pp (pf_fn F_is_within (hr.mono (by decide)) (ar_cons (pv' 1) (ar_cons (PF.pp pk_int) (ar_cons (PF.pp pk_int) ar_nil)))))))) (ss_one ss_never) ss_nil)
    (ss_one (ss_ret (mm_pf (pf_lc (own := [("moved", 2)]) nd (pi_of (it_rg1 z_range) (ar_cons (pv' 1) ar_nil)) (blkOk_by (own := [("moved", 2)]) (N := N_marks_all) (sc := defScope s_marks_all) (by decide +kernel)) (fun _ _ _ _ _ => (gt_name 2 nd)) (fun _ _ _ _ _ => ts_nil) (fun _ _ _ _ _ => (pf_fn F_marks_after (hr.mono (by decide)) (ar_cons (pv' 0) (ar_cons (pv' 2) ar_nil))))))))))⟩
abbrev s_is_service : Stmt := topS 38
abbrev N_is_service : List Str := ["thing", "pair"]
theorem sc_is_service : FnScope N_is_service ["thing"] (defScope s_is_service) := ⟨rfl, rfl, rfl, by decide +kernel, rfl, by decide +kernel, by decide +kernel⟩
noncomputable def m_is_service (g_is_within : List D → Option D) : FS := (sSeq (sIf (mT (bOr (bNot (tst (e1 (gIsa "tuple") (eVar 0)))) (bNot (tst (eChain cmpLe cmpLe (eC (.int 1)) (eCall gLen (aCons (eVar 0) aNil)) (eC (.int 6))))))) (sRet (mP (eC (.bool false)))) sNext)
  (sSeq (sFor (miSelf (mLend 0)) (bbName 1) (sSeq (sIf (mT (bOr (bNot (tst (e1 (gIsa "tuple") (eVar 1)))) (bOr (tst (e2 cmpNe (eCall gLen (aCons (eVar 1) aNil)) (eC (.int 2)))) (bNot (tst (eFn 3 g_is_within (aCons (e2 gIx (eVar 1) (eC (.int 0))) (aCons (eC (.int 1)) (aCons (eC (.int 400)) aNil))))))))) (sRet (mP (eC (.bool false)))) sNext)
  (sIf (mT (bNot (tst (eFn 3 g_is_within (aCons (e2 gIx (eVar 1) (eC (.int 1))) (aCons (eC (.int 0)) (aCons (e2 gSub (e2 gIx (eVar 1) (eC (.int 0))) (eC (.int 1))) aNil))))))) (sRet (mP (eC (.bool false)))) sNext)))
  (sRet (mP (eC (.bool true))))))
theorem F_is_service {f : Addr} {fd : FuncData} (F : Fun K "is_service" "is_service" s_is_service f fd) (hb : L2.Binds K fd ["thing"] []) (hm : mg "is_service" = some (.ref f)) (z_len : mg "len" = none) (z_isinstance : mg "isinstance" = none) (z_tuple : mg "tuple" = none) {g_is_within : List D → Option D} (F_is_within : FnD P w K mg base "is_within" 2 (spP K 3 g_is_within))
    {g : List D → Option D} (law : ∀ ds d, ds.length = 1 → g ds = some d → m_is_service g_is_within (seP d) (envP ds 1)) : FnD P w K mg base "is_service" 3 (spP K 1 g) := by
  refine fnP (k := 2) F sc_is_service hb hm (fun cdv A outer s H E hr => ?_) law
  have hu := hu64 hr
  have hu1 := hu_of hr
  have nd := sc_is_service.nd
  exact ⟨_, (ss_cons (ss_if (mt_pt (PWt.pt (tw_or (tt_not (tt_val (PF.pp (pf_isa z_isinstance z_tuple (pv' 0))))) (tw_or1 (tt_not (tt_chain (o_le hu) (o_le hu) (PF.pp pk_int) (PF.pp (pf_cb (c_len) z_len (ar_cons (pv' 0) ar_nil))) (PF.pp pk_int))))))) (ss_one (ss_ret (mm_pf pk_bl))) ss_nil)
    (ss_cons (ss_for (mi_self (mv_var 0)) (bg_name 1 nd) (ss_cons (ss_if (mt_pt (PWt.pt (tw_or (tt_not (tt_val (PF.pp (pf_isa z_isinstance z_tuple (pv' 1))))) (tw_or (tt_cmp (o_ne hu) (PF.pp (pf_cb (c_len) z_len (ar_cons (pv' 1) ar_nil))) (PF.pp pk_int)) (tw_or1 (tt_not (tt_val (PF.pp (pf_fn F_is_within (hr.mono (by decide)) (ar_cons (pp_ix (pv' 1) (PF.pp pk_int)) (ar_cons (PF.pp pk_int) (ar_cons (PF.pp pk_int) ar_nil)))))))))))) (ss_one (ss_ret (mm_pf pk_bl))) ss_nil)
    (ss_one (ss_if (mt_pt (tt_not (tt_val (PF.pp (pf_fn F_is_within (hr.mono (by decide)) (ar_cons (pp_ix (pv' 1) (PF.pp pk_int)) (ar_cons (PF.pp pk_int) (ar_cons (PF.pp (pf_op o_sub (pp_ix (pv' 1) (PF.pp pk_int)) (PF.pp pk_int))) ar_nil)))))))) (ss_one (ss_ret (mm_pf pk_bl))) ss_nil))))
    (ss_one (ss_ret (mm_pf pk_bl)))))⟩
abbrev s_check_service : Stmt := topS 39
abbrev N_check_service : List Str := ["service", "days"]
theorem sc_check_service : FnScope N_check_service ["service", "days"] (defScope s_check_service) := ⟨rfl, rfl, rfl, by decide +kernel, rfl, by decide +kernel, by decide +kernel⟩
noncomputable def m_check_service (g_is_within : List D → Option D) (g_is_service : List D → Option D) : FS := (sSeq (sIf (mT (bNot (tst (eFn 1 g_is_service (aCons (eVar 0) aNil))))) sNever sNext)
  (sIf (mT (bNot (tst (eFn 3 g_is_within (aCons (eVar 1) (aCons (eC (.int 0)) (aCons (eC (.int 1000)) aNil))))))) sNever sNext))
theorem F_check_service {f : Addr} {fd : FuncData} (F : Fun K "check_service" "check_service" s_check_service f fd) (hb : L2.Binds K fd ["service", "days"] []) (hm : mg "check_service" = some (.ref f)) {t_MOST : Tok} (k_MOST : mg "MOST" = some (.int 1000 t_MOST)) {g_is_within : List D → Option D} (F_is_within : FnD P w K mg base "is_within" 2 (spP K 3 g_is_within)) {g_is_service : List D → Option D} (F_is_service : FnD P w K mg base "is_service" 3 (spP K 1 g_is_service))
    {g : List D → Option D} (law : ∀ ds d, ds.length = 2 → g ds = some d → m_check_service g_is_within g_is_service (seP d) (envP ds 0)) : FnD P w K mg base "check_service" 4 (spP K 2 g) := by
  refine fnP (k := 3) F sc_check_service hb hm (fun cdv A outer s H E hr => ?_) law
  have hu := hu64 hr
  have hu1 := hu_of hr
  have nd := sc_check_service.nd
  exact ⟨_, (ss_cons (ss_if (mt_pt (tt_not (tt_val (PF.pp (pf_fn F_is_service (hr.mono (by decide)) (ar_cons (pv' 0) ar_nil)))))) (ss_one ss_never) ss_nil)
    (ss_one (ss_if (mt_pt (tt_not (tt_val (PF.pp (pf_fn F_is_within (hr.mono (by decide)) (ar_cons (pv' 1) (ar_cons (PF.pp pk_int) (ar_cons (PF.pp (pf_glob k_MOST)) ar_nil)))))))) (ss_one ss_never) ss_nil)))⟩
abbrev s_next_due : Stmt := topS 47
abbrev N_next_due : List Str := ["service", "day", "later", "pair", "at"]
theorem sc_next_due : FnScope N_next_due ["service", "day"] (defScope s_next_due) := ⟨rfl, rfl, rfl, by decide +kernel, rfl, by decide +kernel, by decide +kernel⟩
noncomputable def m_next_due (g_check_service : List D → Option D) : FS := (sSeq (sExpr (mP (eFn 2 g_check_service (aCons (eVar 0) (aCons (eVar 1) aNil)))))
  (sSeq (sSet 2 (mP (eCall gMin (aCons (eLc [3] (iSelf (eVar 0)) (bName 3) bTrue (e2 gMul (e2 gAdd (e2 gFdiv (eVar 1) (e2 gIx (eVar 3) (eC (.int 0)))) (eC (.int 1))) (e2 gIx (eVar 3) (eC (.int 0))))) aNil))))
  (sRet (mP (eTup (aCons (eFrz (eVar 2)) (aCons (eCall gTupOf (aCons (eLc [4, 3] (iOf giEnum (aCons (eVar 0) aNil)) (bTup (bCons (bName 4) (bCons (bName 3) bNil))) (tst (e2 cmpEq (e2 gMod (eVar 2) (e2 gIx (eVar 3) (eC (.int 0)))) (eC (.int 0)))) (eFrz (eVar 4))) aNil)) aNil)))))))
theorem F_next_due {f : Addr} {fd : FuncData} (F : Fun K "next_due" "next_due" s_next_due f fd) (hb : L2.Binds K fd ["service", "day"] []) (hm : mg "next_due" = some (.ref f)) (z_enumerate : mg "enumerate" = none) (z_tuple : mg "tuple" = none) (z_min : mg "min" = none) {g_check_service : List D → Option D} (F_check_service : FnD P w K mg base "check_service" 4 (spP K 2 g_check_service))
    {g : List D → Option D} (law : ∀ ds d, ds.length = 2 → g ds = some d → m_next_due g_check_service (seP d) (envP ds 3)) : FnD P w K mg base "next_due" 5 (spP K 2 g) := by
  refine fnP (k := 4) F sc_next_due hb hm (fun cdv A outer s H E hr => ?_) law
  have hu := hu64 hr
  have hu1 := hu_of hr
  have nd := sc_next_due.nd
  exact ⟨_, (ss_cons (ss_expr (mm_pf (pf_fn F_check_service (hr.mono (by decide)) (ar_cons (pv' 0) (ar_cons (pv' 1) ar_nil)))))
    (ss_cons (ss_set (i := 2) nd (mm_pf (pf_cb (c_min hu) z_min (ar_cons (PF.pp (pf_lc (own := [("pair", 3)]) nd (pi_self (pv' 0)) (blkOk_by (own := [("pair", 3)]) (N := N_next_due) (sc := defScope s_next_due) (by decide +kernel)) (fun _ _ _ _ _ => (gt_name 3 nd)) (fun _ _ _ _ _ => ts_nil) (fun _ _ _ _ _ => (pf_op o_mul (PF.pp (pf_op o_add (PF.pp (pf_op o_fdiv (pv' 1) (pp_ix (pv' 3) (PF.pp pk_int)))) (PF.pp pk_int))) (pp_ix (pv' 3) (PF.pp pk_int)))))) ar_nil))))
    (ss_one (ss_ret (mm_pf (pf_tup (an_cons (PP.frz (pv' 2)) (an_cons (pf_ct c_tuple z_tuple (ar_cons (PF.pp (pf_lc (own := [("at", 4), ("pair", 3)]) nd (pi_of (it_enum z_enumerate) (ar_cons (pv' 0) ar_nil)) (blkOk_by (own := [("at", 4), ("pair", 3)]) (N := N_next_due) (sc := defScope s_next_due) (by decide +kernel)) (fun _ _ _ _ _ => (gt_tup (gs_cons (gt_name 4 nd) (gs_cons (gt_name 3 nd) gs_nil)) (bl_cons (bl_cons bl_nil)))) (fun _ _ _ _ _ => (ts_one (tt_cmp (o_eq hu) (PF.pp (pf_op o_mod (pv' 2) (pp_ix (pv' 3) (PF.pp pk_int)))) (PF.pp pk_int)))) (fun _ _ _ _ _ => (PP.frz (pv' 4))))) ar_nil)) an_nil))))))))⟩
abbrev s_law_draw : Stmt := topS 53
abbrev N_law_draw : List Str := ["hand", "many", "number", "cell", "digit"]
theorem sc_law_draw : FnScope N_law_draw ["hand", "many"] (defScope s_law_draw) := ⟨rfl, rfl, rfl, by decide +kernel, rfl, by decide +kernel, by decide +kernel⟩
noncomputable def m_law_draw  : FS := (sSeq (sIf (mT (bAnd (tst (e2 cmpEq (e2 gIx (eVar 0) (eC (.int 2))) (eC (.int 0)))) (tst (e2 cmpLt (e2 gIx (eVar 0) (eC (.int 1))) (eCall gLen (aCons (e2 gIx (eVar 0) (eC (.int 0))) aNil)))))) (sSeq (sSet 3 (mP (eFrz (e2 gIx (e2 gIx (eVar 0) (eC (.int 0))) (e2 gIx (eVar 0) (eC (.int 1)))))))
  (sSeq (sAsg (bSub 0 (eC (.int 1))) (mP (e2 gAdd (e2 gIx (eVar 0) (eC (.int 1))) (eC (.int 1)))))
  (sSeq (sAsg (bSub 0 (eC (.int 3))) (mP (e2 gMod (eCall gInt (aCons (e2 gAdd (e2 gAdd (e2 gMul (e2 gIx (eVar 0) (eC (.int 3))) (eC (.int 69621))) (e2 gMul (eVar 3) (eC (.int 48271)))) (eC (.int 17))) aNil)) (eC (.int 2147483629)))))
  (sIf (mT (tst (e2 cmpGe (eVar 3) (e2 gPow (eC (.int 10)) (eC (.int 18)))))) (sAsg (bSub 0 (eC (.int 2))) (mVar 3)) sNext)))) sNext)
  (sSeq (sIf (mT (tst (e2 cmpGt (e2 gIx (eVar 0) (eC (.int 2))) (eC (.int 0))))) (sSeq (sSet 4 (mP (e2 gMod (eCall gInt (aCons (e2 gIx (eVar 0) (eC (.int 2))) aNil)) (eVar 1))))
  (sSeq (sAsg (bSub 0 (eC (.int 2))) (mP (e2 gFdiv (e2 gIx (eVar 0) (eC (.int 2))) (eVar 1))))
  (sRet (mVar 4)))) sNext)
  (sSeq (sAsg (bSub 0 (eC (.int 4))) (mP (e2 gAdd (e2 gIx (eVar 0) (eC (.int 4))) (eC (.int 1)))))
  (sSeq (sSet 2 (mP (e2 gMod (eCall gInt (aCons (e2 gMul (eCall gInt (aCons (e2 gAdd (e2 gIx (eVar 0) (eC (.int 3))) (e2 gMul (eC (.int 7919)) (e2 gIx (eVar 0) (eC (.int 4))))) aNil)) (eC (.int 40692))) aNil)) (eC (.int 2147483647)))))
  (sSeq (sSet 2 (mP (e2 gMod (eCall gInt (aCons (e2 gMul (eVar 2) (e2 gAdd (e2 gFdiv (eVar 2) (eC (.int 1009))) (eC (.int 69621)))) aNil)) (eC (.int 2147483647)))))
  (sSeq (sSet 2 (mP (e2 gMod (eCall gInt (aCons (e2 gMul (eVar 2) (e2 gAdd (e2 gFdiv (eVar 2) (eC (.int 2003))) (eC (.int 40014)))) aNil)) (eC (.int 2147483563)))))
  (sRet (mP (e2 gMod (eCall gInt (aCons (e2 gFdiv (eVar 2) (eC (.int 16))) aNil)) (eVar 1))))))))))
theorem F_law_draw {f : Addr} {fd : FuncData} (F : Fun K "_law_draw" "_law_draw" s_law_draw f fd) (hb : L2.Binds K fd ["hand", "many"] []) (hm : mg "_law_draw" = some (.ref f)) (z_int : mg "int" = none) (z_len : mg "len" = none)
    {g : List D → Option (D × D)} (law : ∀ dpre d dpost r d', dpre.length = 0 → dpre.length + 1 + dpost.length = 2 → g (dpre ++ d :: dpost) = some (r, d') → m_law_draw  (seI 0 r d') (envI dpre d dpost 3)) : FnD P w K mg base "_law_draw" 1 (spI K 2 0 g) := by
  refine fnI (k := 0) 0 F sc_law_draw hb hm (fun cdv A outer s H E hr => ?_) law
  have hu := hu64 hr
  have hu1 := hu_of hr
  have nd := sc_law_draw.nd
  exact ⟨_, (ss_cons (ss_if (mt_pt (PWt.pt (tw_and (tt_cmp (o_eq hu) (pp_ix (pv' 0) (PF.pp pk_int)) (PF.pp pk_int)) (tw_and1 (tt_cmp (o_lt hu) (pp_ix (pv' 0) (PF.pp pk_int)) (PF.pp (pf_cb (c_len) z_len (ar_cons (pp_ix (pv' 0) (PF.pp pk_int)) ar_nil)))))))) (ss_cons (ss_set (i := 3) nd (mm_pf (PP.frz (pp_ix (pp_ix (pv' 0) (PF.pp pk_int)) (pp_ix (pv' 0) (PF.pp pk_int))))))
    (ss_cons (ss_asg (mm_pf (pf_op o_add (pp_ix (pv' 0) (PF.pp pk_int)) (PF.pp pk_int))) (mg_sub (i := 0) (PF.pp pk_int)))
    (ss_cons (ss_asg (mm_pf (pf_op o_mod (PF.pp (pf_ct c_int z_int (ar_cons (PF.pp (pf_op o_add (PF.pp (pf_op o_add (PF.pp (pf_op o_mul (pp_ix (pv' 0) (PF.pp pk_int)) (PF.pp pk_int))) (PF.pp (pf_op o_mul (pv' 3) (PF.pp pk_int))))) (PF.pp pk_int))) ar_nil))) (PF.pp pk_int))) (mg_sub (i := 0) (PF.pp pk_int)))
    (ss_one (ss_if (mt_pt (tt_cmp (o_ge hu) (pv' 3) (PF.pp (pf_op o_pow (PF.pp pk_int) (PF.pp pk_int))))) (ss_one (ss_asg (mm_var 3) (mg_sub (i := 0) (PF.pp pk_int)))) ss_nil))))) ss_nil)
    (ss_cons (ss_if (mt_pt (tt_cmp (o_gt hu) (pp_ix (pv' 0) (PF.pp pk_int)) (PF.pp pk_int))) (ss_cons (ss_set (i := 4) nd (mm_pf (pf_op o_mod (PF.pp (pf_ct c_int z_int (ar_cons (pp_ix (pv' 0) (PF.pp pk_int)) ar_nil))) (pv' 1))))
    (ss_cons (ss_asg (mm_pf (pf_op o_fdiv (pp_ix (pv' 0) (PF.pp pk_int)) (pv' 1))) (mg_sub (i := 0) (PF.pp pk_int)))
    (ss_one (ss_ret (mm_var 4))))) ss_nil)
    (ss_cons (ss_asg (mm_pf (pf_op o_add (pp_ix (pv' 0) (PF.pp pk_int)) (PF.pp pk_int))) (mg_sub (i := 0) (PF.pp pk_int)))
    (ss_cons (ss_set (i := 2) nd (mm_pf (pf_op o_mod (PF.pp (pf_ct c_int z_int (ar_cons (PF.pp (pf_op o_mul (PF.pp (pf_ct c_int z_int (ar_cons (PF.pp (pf_op o_add (pp_ix (pv' 0) (PF.pp pk_int)) (PF.pp (pf_op o_mul (PF.pp pk_int) (pp_ix (pv' 0) (PF.pp pk_int)))))) ar_nil))) (PF.pp pk_int))) ar_nil))) (PF.pp pk_int))))
    (ss_cons (ss_set (i := 2) nd (mm_pf (pf_op o_mod (PF.pp (pf_ct c_int z_int (ar_cons (PF.pp (pf_op o_mul (pv' 2) (PF.pp (pf_op o_add (PF.pp (pf_op o_fdiv (pv' 2) (PF.pp pk_int))) (PF.pp pk_int))))) ar_nil))) (PF.pp pk_int))))
    (ss_cons (ss_set (i := 2) nd (mm_pf (pf_op o_mod (PF.pp (pf_ct c_int z_int (ar_cons (PF.pp (pf_op o_mul (pv' 2) (PF.pp (pf_op o_add (PF.pp (pf_op o_fdiv (pv' 2) (PF.pp pk_int))) (PF.pp pk_int))))) ar_nil))) (PF.pp pk_int))))
    (ss_one (ss_ret (mm_pf (pf_op o_mod (PF.pp (pf_ct c_int z_int (ar_cons (PF.pp (pf_op o_fdiv (pv' 2) (PF.pp pk_int))) ar_nil))) (pv' 1)))))))))))⟩
abbrev s_plain_days : Stmt := topS 40
abbrev N_plain_days : List Str := ["service", "days", "pair"]
theorem sc_plain_days : FnScope N_plain_days ["service", "days"] (defScope s_plain_days) := ⟨rfl, rfl, rfl, by decide +kernel, rfl, by decide +kernel, by decide +kernel⟩
noncomputable def m_plain_days (g_check_service : List D → Option D) : FS := (sSeq (sExpr (mP (eFn 2 g_check_service (aCons (eVar 0) (aCons (eVar 1) aNil)))))
  (sRet (mP (eCall gTupOf (aCons (eLc [2] (iSelf (eVar 0)) (bName 2) bTrue (eCall gTrg3 (aCons (e2 gIx (eVar 2) (eC (.int 0))) (aCons (e2 gAdd (eVar 1) (eC (.int 1))) (aCons (e2 gIx (eVar 2) (eC (.int 0))) aNil))))) aNil)))))
theorem F_plain_days {f : Addr} {fd : FuncData} (F : Fun K "plain_days" "plain_days" s_plain_days f fd) (hb : L2.Binds K fd ["service", "days"] []) (hm : mg "plain_days" = some (.ref f)) (z_tuple : mg "tuple" = none) (z_range : mg "range" = none) {g_check_service : List D → Option D} (F_check_service : FnD P w K mg base "check_service" 4 (spP K 2 g_check_service))
    {g : List D → Option D} (law : ∀ ds d, ds.length = 2 → g ds = some d → m_plain_days g_check_service (seP d) (envP ds 1)) : FnD P w K mg base "plain_days" 5 (spP K 2 g) := by
  refine fnP (k := 4) F sc_plain_days hb hm (fun cdv A outer s H E hr => ?_) law
  have hu := hu64 hr
  have hu1 := hu_of hr
  have nd := sc_plain_days.nd
  exact ⟨_, (ss_cons (ss_expr (mm_pf (pf_fn F_check_service (hr.mono (by decide)) (ar_cons (pv' 0) (ar_cons (pv' 1) ar_nil)))))
    (ss_one (ss_ret (mm_pf (pf_ct c_tuple z_tuple (ar_cons (PF.pp (pf_lc (own := [("pair", 2)]) nd (pi_self (pv' 0)) (blkOk_by (own := [("pair", 2)]) (N := N_plain_days) (sc := defScope s_plain_days) (by decide +kernel)) (fun _ _ _ _ _ => (gt_name 2 nd)) (fun _ _ _ _ _ => ts_nil) (fun _ _ _ _ _ => (pf_trg3 z_tuple z_range (ar_cons (pp_ix (pv' 2) (PF.pp pk_int)) (ar_cons (PF.pp (pf_op o_add (pv' 1) (PF.pp pk_int))) (ar_cons (pp_ix (pv' 2) (PF.pp pk_int)) ar_nil))))))) ar_nil))))))⟩
abbrev s_plain_visits : Stmt := topS 41
abbrev N_plain_visits : List Str := ["service", "days", "found", "row", "day"]
theorem sc_plain_visits : FnScope N_plain_visits ["service", "days"] (defScope s_plain_visits) := ⟨rfl, rfl, rfl, by decide +kernel, rfl, by decide +kernel, by decide +kernel⟩
noncomputable def m_plain_visits (g_plain_days : List D → Option D) : FS := (sSeq (sSet 2 (mP (eC (.dict []))))
  (sSeq (sFor (miSelf (mP (eFn 2 g_plain_days (aCons (eVar 0) (aCons (eVar 1) aNil))))) (bbName 3) (sFor (miSelf (mLend 3)) (bbName 4) (sDput 2 (eVar 4) (mP (eC (.bool true))))))
  (sRet (mP (eCall gTupOf (aCons (eCall gSorted (aCons (eCall gListD (aCons (eVar 2) aNil)) aNil)) aNil))))))
theorem F_plain_visits {f : Addr} {fd : FuncData} (F : Fun K "plain_visits" "plain_visits" s_plain_visits f fd) (hb : L2.Binds K fd ["service", "days"] []) (hm : mg "plain_visits" = some (.ref f)) (z_list : mg "list" = none) (z_sorted : mg "sorted" = none) (z_tuple : mg "tuple" = none) {g_plain_days : List D → Option D} (F_plain_days : FnD P w K mg base "plain_days" 5 (spP K 2 g_plain_days))
    {g : List D → Option D} (law : ∀ ds d, ds.length = 2 → g ds = some d → m_plain_visits g_plain_days (seP d) (envP ds 3)) : FnD P w K mg base "plain_visits" 6 (spP K 2 g) := by
  refine fnP (k := 5) F sc_plain_visits hb hm (fun cdv A outer s H E hr => ?_) law
  have hu := hu64 hr
  have hu1 := hu_of hr
  have nd := sc_plain_visits.nd
  exact ⟨_, (ss_cons (ss_set (i := 2) nd (mm_pf pf_dnew))
    (ss_cons (ss_for (mi_self (mv_pf (pf_fn F_plain_days (hr.mono (by decide)) (ar_cons (pv' 0) (ar_cons (pv' 1) ar_nil))))) (bg_name 3 nd) (ss_one (ss_for (mi_self (mv_var 3)) (bg_name 4 nd) (ss_one (ss_dput (i := 2) hu1 (pv' 4) (mm_pf pk_bl))))))
    (ss_one (ss_ret (mm_pf (pf_ct c_tuple z_tuple (ar_cons (PF.pp (pf_cb (c_sorted hu) z_sorted (ar_cons (PF.pp (pf_ct c_listD z_list (ar_cons (pv' 2) ar_nil))) ar_nil))) ar_nil)))))))⟩
abbrev s_plain_many : Stmt := topS 48
abbrev N_plain_many : List Str := ["service", "days", "lots", "total", "pair", "whole", "size"]
theorem sc_plain_many : FnScope N_plain_many ["service", "days"] (defScope s_plain_many) := ⟨rfl, rfl, rfl, by decide +kernel, rfl, by decide +kernel, by decide +kernel⟩
noncomputable def m_plain_many (g_shared : List D → Option D) (g_check_service : List D → Option D) : FS := (sSeq (sExpr (mP (eFn 2 g_check_service (aCons (eVar 0) (aCons (eVar 1) aNil)))))
  (sSeq (sPar 2 3 (mP (eLst (aCons (eTup (aCons (eC (.int 1)) (aCons (eC (.int 0)) aNil))) aNil))) (mP (eC (.int 0))))
  (sSeq (sFor (miSelf (mLend 0)) (bbName 4) (sSet 2 (mP (e2 gAdd (eVar 2) (eLc [5, 6] (iSelf (eVar 2)) (bTup (bCons (bName 5) (bCons (bName 6) bNil))) bTrue (eTup (aCons (e2 gFdiv (e2 gMul (eVar 5) (e2 gIx (eVar 4) (eC (.int 0)))) (eFn 2 g_shared (aCons (eVar 5) (aCons (e2 gIx (eVar 4) (eC (.int 0))) aNil)))) (aCons (e2 gAdd (eVar 6) (eC (.int 1))) aNil))))))))
  (sSeq (sFor (miSelf (mLend 2)) (bTup (bCons (bbName 5) (bCons (bbName 6) bNil))) (sIf (mT (tst (e2 cmpGt (eVar 6) (eC (.int 0))))) (sAug 3 gAddI (mP (e2 gMul (e2 gFdiv (eVar 1) (eVar 5)) (eIf (tst (e2 cmpEq (e2 gMod (eVar 6) (eC (.int 2))) (eC (.int 1)))) (eC (.int 1)) (e1 gNeg (eC (.int 1))))))) sNext))
  (sRet (mVar 3))))))
theorem F_plain_many {f : Addr} {fd : FuncData} (F : Fun K "plain_many" "plain_many" s_plain_many f fd) (hb : L2.Binds K fd ["service", "days"] []) (hm : mg "plain_many" = some (.ref f)) {g_shared : List D → Option D} (F_shared : FnD P w K mg base "shared" 1 (spP K 2 g_shared)) {g_check_service : List D → Option D} (F_check_service : FnD P w K mg base "check_service" 4 (spP K 2 g_check_service))
    {g : List D → Option D} (law : ∀ ds d, ds.length = 2 → g ds = some d → m_plain_many g_shared g_check_service (seP d) (envP ds 5)) : FnD P w K mg base "plain_many" 5 (spP K 2 g) := by
  refine fnP (k := 4) F sc_plain_many hb hm (fun cdv A outer s H E hr => ?_) law
  have hu := hu64 hr
  have hu1 := hu_of hr
  have nd := sc_plain_many.nd
  exact ⟨_, (ss_cons (ss_expr (mm_pf (pf_fn F_check_service (hr.mono (by decide)) (ar_cons (pv' 0) (ar_cons (pv' 1) ar_nil)))))
    (ss_cons (ss_par (i := 2) (j := 3) nd (mm_pf (pf_lst (an_cons (pf_tup (an_cons pk_int (an_cons pk_int an_nil))) an_nil))) (mm_pf pk_int))
    (ss_cons (ss_for (mi_self (mv_var 0)) (bg_name 4 nd) (ss_one (ss_set (i := 2) nd (mm_pf (pf_op o_add (pv' 2) (PF.pp (pf_lc (own := [("whole", 5), ("size", 6)]) nd (pi_self (pv' 2)) (blkOk_by (own := [("whole", 5), ("size", 6)]) (N := N_plain_many) (sc := defScope s_plain_many) (by decide +kernel)) (fun _ _ _ _ _ => (gt_tup (gs_cons (gt_name 5 nd) (gs_cons (gt_name 6 nd) gs_nil)) (bl_cons (bl_cons bl_nil)))) (fun _ _ _ _ _ => ts_nil) (fun _ _ _ _ _ => (pf_tup (an_cons (pf_op o_fdiv (PF.pp (pf_op o_mul (pv' 5) (pp_ix (pv' 4) (PF.pp pk_int)))) (PF.pp (pf_fn F_shared (hr.mono (by decide)) (ar_cons (pv' 5) (ar_cons (pp_ix (pv' 4) (PF.pp pk_int)) ar_nil))))) (an_cons (pf_op o_add (pv' 6) (PF.pp pk_int)) an_nil)))))))))))
    (ss_cons (ss_for (mi_self (mv_var 2)) (bg_tup (bgs_cons (bg_name 5 nd) (bgs_cons (bg_name 6 nd) bgs_nil)) (bl_cons (bl_cons bl_nil))) (ss_one (ss_if (mt_pt (tt_cmp (o_gt hu) (pv' 6) (PF.pp pk_int))) (ss_one (ss_aug (i := 3) nd i_add (mv_pf (pf_op o_mul (PF.pp (pf_op o_fdiv (pv' 1) (pv' 5))) (PF.pp (pf_if (tt_cmp (o_eq hu) (PF.pp (pf_op o_mod (pv' 6) (PF.pp pk_int))) (PF.pp pk_int)) pk_int (pf_un o_neg (PF.pp pk_int)))))))) ss_nil)))
    (ss_one (ss_ret (mm_var 3)))))))⟩
abbrev s_due_on : Stmt := topS 46
abbrev N_due_on : List Str := ["service", "day", "at", "pair"]
theorem sc_due_on : FnScope N_due_on ["service", "day"] (defScope s_due_on) := ⟨rfl, rfl, rfl, by decide +kernel, rfl, by decide +kernel, by decide +kernel⟩
noncomputable def m_due_on (g_check_service : List D → Option D) : FS := (sSeq (sExpr (mP (eFn 2 g_check_service (aCons (eVar 0) (aCons (eVar 1) aNil)))))
  (sSeq (sIf (mT (tst (e2 cmpEq (eVar 1) (eC (.int 0))))) sNever sNext)
  (sRet (mP (eCall gTupOf (aCons (eLc [2, 3] (iOf giEnum (aCons (eVar 0) aNil)) (bTup (bCons (bName 2) (bCons (bName 3) bNil))) (tst (e2 cmpEq (e2 gMod (eVar 1) (e2 gIx (eVar 3) (eC (.int 0)))) (eC (.int 0)))) (eFrz (eVar 2))) aNil))))))
theorem F_due_on {f : Addr} {fd : FuncData} (F : Fun K "due_on" "due_on" s_due_on f fd) (hb : L2.Binds K fd ["service", "day"] []) (hm : mg "due_on" = some (.ref f)) (z_enumerate : mg "enumerate" = none) (z_tuple : mg "tuple" = none) {g_check_service : List D → Option D} (F_check_service : FnD P w K mg base "check_service" 4 (spP K 2 g_check_service))
    {g : List D → Option D} (law : ∀ ds d, ds.length = 2 → g ds = some d → m_due_on g_check_service (seP d) (envP ds 2)) : FnD P w K mg base "due_on" 5 (spP K 2 g) := by
  refine fnP (k := 4) F sc_due_on hb hm (fun cdv A outer s H E hr => ?_) law
  have hu := hu64 hr
  have hu1 := hu_of hr
  have nd := sc_due_on.nd
  exact ⟨_, (ss_cons (ss_expr (mm_pf (pf_fn F_check_service (hr.mono (by decide)) (ar_cons (pv' 0) (ar_cons (pv' 1) ar_nil)))))
    (ss_cons (ss_if (mt_pt (tt_cmp (o_eq hu) (pv' 1) (PF.pp pk_int))) (ss_one ss_never) ss_nil)
    (ss_one (ss_ret (mm_pf (pf_ct c_tuple z_tuple (ar_cons (PF.pp (pf_lc (own := [("at", 2), ("pair", 3)]) nd (pi_of (it_enum z_enumerate) (ar_cons (pv' 0) ar_nil)) (blkOk_by (own := [("at", 2), ("pair", 3)]) (N := N_due_on) (sc := defScope s_due_on) (by decide +kernel)) (fun _ _ _ _ _ => (gt_tup (gs_cons (gt_name 2 nd) (gs_cons (gt_name 3 nd) gs_nil)) (bl_cons (bl_cons bl_nil)))) (fun _ _ _ _ _ => (ts_one (tt_cmp (o_eq hu) (PF.pp (pf_op o_mod (pv' 1) (pp_ix (pv' 3) (PF.pp pk_int)))) (PF.pp pk_int)))) (fun _ _ _ _ _ => (PP.frz (pv' 2))))) ar_nil)))))))⟩
abbrev s_joined_visits : Stmt := topS 42
abbrev N_joined_visits : List Str := ["service", "days", "last", "found", "day", "some", "at", "pair", "one"]
theorem sc_joined_visits : FnScope N_joined_visits ["service", "days"] (defScope s_joined_visits) := ⟨rfl, rfl, rfl, by decide +kernel, rfl, by decide +kernel, by decide +kernel⟩
noncomputable def m_joined_visits (g_check_service : List D → Option D) : FS := (sSeq (sExpr (mP (eFn 2 g_check_service (aCons (eVar 0) (aCons (eVar 1) aNil)))))
  (sSeq (sAsg (bTup (bCons (mbName 2) (bCons (mbName 3) bNil))) (mP (eTup (aCons (e2 gMul (eLst (aCons (eC (.int 0)) aNil)) (eCall gLen (aCons (eVar 0) aNil))) (aCons (eLst aNil) aNil)))))
  (sWhile (mT (tst (eC (.bool true)))) (sSeq (sSet 4 (mP (eCall gMin (aCons (eLc [8, 7] (iOf giZip (aCons (eVar 2) (aCons (eVar 0) aNil))) (bTup (bCons (bName 8) (bCons (bName 7) bNil))) bTrue (e2 gAdd (eVar 8) (e2 gIx (eVar 7) (eC (.int 0))))) aNil))))
  (sSeq (sIf (mT (tst (e2 cmpGt (eVar 4) (eVar 1)))) (sRet (mP (eCall gTupOf (aCons (eVar 3) aNil)))) sNext)
  (sSeq (sSet 5 (mP (eLc [6, 7] (iOf giEnum (aCons (eVar 0) aNil)) (bTup (bCons (bName 6) (bCons (bName 7) bNil))) (tst (e2 cmpLe (e2 gSub (e2 gAdd (e2 gIx (eVar 2) (eVar 6)) (e2 gIx (eVar 7) (eC (.int 0)))) (e2 gIx (eVar 7) (eC (.int 1)))) (eVar 4))) (eFrz (eVar 6)))))
  (sSeq (sFor (miSelf (mLend 5)) (bbName 6) (sAsg (bSub 2 (eVar 6)) (mVar 4)))
  (sExpr (mApp 3 (mP (eTup (aCons (eFrz (eVar 4)) (aCons (eCall gTupOf (aCons (eVar 5) aNil)) aNil)))))))))))))
theorem F_joined_visits {f : Addr} {fd : FuncData} (F : Fun K "joined_visits" "joined_visits" s_joined_visits f fd) (hb : L2.Binds K fd ["service", "days"] []) (hm : mg "joined_visits" = some (.ref f)) (z_tuple : mg "tuple" = none) (z_enumerate : mg "enumerate" = none) (z_zip : mg "zip" = none) (z_min : mg "min" = none) (z_len : mg "len" = none) {g_check_service : List D → Option D} (F_check_service : FnD P w K mg base "check_service" 4 (spP K 2 g_check_service))
    {g : List D → Option D} (law : ∀ ds d, ds.length = 2 → g ds = some d → m_joined_visits g_check_service (seP d) (envP ds 7)) : FnD P w K mg base "joined_visits" 5 (spP K 2 g) := by
  refine fnP (k := 4) F sc_joined_visits hb hm (fun cdv A outer s H E hr => ?_) law
  have hu := hu64 hr
  have hu1 := hu_of hr
  have nd := sc_joined_visits.nd
  exact ⟨_, (ss_cons (ss_expr (mm_pf (pf_fn F_check_service (hr.mono (by decide)) (ar_cons (pv' 0) (ar_cons (pv' 1) ar_nil)))))
    (ss_cons (ss_asg (mm_pf (pf_tup (an_cons (pf_op o_mul (PF.pp (pf_lst (an_cons pk_int an_nil))) (PF.pp (pf_cb (c_len) z_len (ar_cons (pv' 0) ar_nil)))) (an_cons (pf_lst an_nil) an_nil)))) (mg_tup (mgs_cons (mg_name 2 nd) (mgs_cons (mg_name 3 nd) mgs_nil)) (bl_cons (bl_cons bl_nil))))
    (ss_one (ss_while (mt_pt (tt_val (PF.pp pk_bl))) (ss_cons (ss_set (i := 4) nd (mm_pf (pf_cb (c_min hu) z_min (ar_cons (PF.pp (pf_lc (own := [("one", 8), ("pair", 7)]) nd (pi_of (it_zip z_zip) (ar_cons (pv' 2) (ar_cons (pv' 0) ar_nil))) (blkOk_by (own := [("one", 8), ("pair", 7)]) (N := N_joined_visits) (sc := defScope s_joined_visits) (by decide +kernel)) (fun _ _ _ _ _ => (gt_tup (gs_cons (gt_name 8 nd) (gs_cons (gt_name 7 nd) gs_nil)) (bl_cons (bl_cons bl_nil)))) (fun _ _ _ _ _ => ts_nil) (fun _ _ _ _ _ => (pf_op o_add (pv' 8) (pp_ix (pv' 7) (PF.pp pk_int)))))) ar_nil))))
    (ss_cons (ss_if (mt_pt (tt_cmp (o_gt hu) (pv' 4) (pv' 1))) (ss_one (ss_ret (mm_pf (pf_ct c_tuple z_tuple (ar_cons (pv' 3) ar_nil))))) ss_nil)
    (ss_cons (ss_setLc (i := 5) (own := [("at", 6), ("pair", 7)]) nd (pi_of (it_enum z_enumerate) (ar_cons (pv' 0) ar_nil)) (blkOk_by (own := [("at", 6), ("pair", 7)]) (N := N_joined_visits) (sc := defScope s_joined_visits) (by decide +kernel)) (fun _ _ _ _ _ => (gt_tup (gs_cons (gt_name 6 nd) (gs_cons (gt_name 7 nd) gs_nil)) (bl_cons (bl_cons bl_nil)))) (fun _ _ _ _ _ => (ts_one (tt_cmp (o_le hu) (PF.pp (pf_op o_sub (PF.pp (pf_op o_add (pp_ix (pv' 2) (pv' 6)) (pp_ix (pv' 7) (PF.pp pk_int)))) (pp_ix (pv' 7) (PF.pp pk_int)))) (pv' 4)))) (fun _ _ _ _ _ => (PP.frz (pv' 6))) (sw_true rfl rfl rfl (by decide +kernel)))
    (ss_cons (ss_for (mi_self (mv_var 5)) (bg_name 6 nd) (ss_one (ss_asg (mm_var 4) (mg_sub (i := 2) (pv' 6)))))
    (ss_one (ss_expr (mm_app (i := 3) (mm_pf (pf_tup (an_cons (PP.frz (pv' 4)) (an_cons (pf_ct c_tuple z_tuple (ar_cons (pv' 5) ar_nil)) an_nil)))))))))))))))⟩
abbrev s_done_many : Stmt := topS 44
abbrev N_done_many : List Str := ["service", "days", "rows", "at", "day", "some"]
theorem sc_done_many : FnScope N_done_many ["service", "days"] (defScope s_done_many) := ⟨rfl, rfl, rfl, by decide +kernel, rfl, by decide +kernel, by decide +kernel⟩
noncomputable def m_done_many (g_joined_visits : List D → Option D) : FS := (sSeq (sSet 2 (mP (eFn 2 g_joined_visits (aCons (eVar 0) (aCons (eVar 1) aNil)))))
  (sRet (mP (eCall gTupOf (aCons (eLc [3] (iOf giRg1 (aCons (eCall gLen (aCons (eVar 0) aNil)) aNil)) (bName 3) bTrue (eCall gLen (aCons (eLc [4, 5] (iSelf (eVar 2)) (bTup (bCons (bName 4) (bCons (bName 5) bNil))) (tst (e2 cmpIn (eVar 3) (eVar 5))) (eC (.int 1))) aNil))) aNil)))))
theorem F_done_many {f : Addr} {fd : FuncData} (F : Fun K "done_many" "done_many" s_done_many f fd) (hb : L2.Binds K fd ["service", "days"] []) (hm : mg "done_many" = some (.ref f)) (z_range : mg "range" = none) (z_len : mg "len" = none) (z_tuple : mg "tuple" = none) {g_joined_visits : List D → Option D} (F_joined_visits : FnD P w K mg base "joined_visits" 5 (spP K 2 g_joined_visits))
    {g : List D → Option D} (law : ∀ ds d, ds.length = 2 → g ds = some d → m_done_many g_joined_visits (seP d) (envP ds 4)) : FnD P w K mg base "done_many" 6 (spP K 2 g) := by
  refine fnP (k := 5) F sc_done_many hb hm (fun cdv A outer s H E hr => ?_) law
  have hu := hu64 hr
  have hu1 := hu_of hr
  have nd := sc_done_many.nd
  exact ⟨_, (ss_cons (ss_set (i := 2) nd (mm_pf (pf_fn F_joined_visits (hr.mono (by decide)) (ar_cons (pv' 0) (ar_cons (pv' 1) ar_nil)))))
    (ss_one (ss_ret (mm_pf (pf_ct c_tuple z_tuple (ar_cons (PF.pp (pf_lc (own := [("at", 3)]) nd (pi_of (it_rg1 z_range) (ar_cons (PF.pp (pf_cb (c_len) z_len (ar_cons (pv' 0) ar_nil))) ar_nil)) (blkOk_by (own := [("at", 3)]) (N := N_done_many) (sc := defScope s_done_many) (by decide +kernel)) (fun _ _ _ _ _ => (gt_name 3 nd)) (fun _ _ _ _ _ => ts_nil) (fun _ _ _ _ _ => (pf_cb (c_len) z_len (ar_cons (PF.pp (pf_lc (own := [("day", 4), ("some", 5)]) nd (pi_self (pv' 2)) (blkOk_in (blkOk_by (own := [("day", 4), ("some", 5)]) (N := N_done_many) (by decide +kernel))) (fun _ _ _ _ _ => (gt_tup (gs_cons (gt_name 4 nd) (gs_cons (gt_name 5 nd) gs_nil)) (bl_cons (bl_cons bl_nil)))) (fun _ _ _ _ _ => (ts_one (tt_cmp (o_in hu) (pv' 3) (pv' 5)))) (fun _ _ _ _ _ => pk_int))) ar_nil))))) ar_nil))))))⟩
abbrev s_sooner_of : Stmt := topS 49
abbrev N_sooner_of : List Str := ["service", "days", "kilometers", "found", "pair", "by_way"]
theorem sc_sooner_of : FnScope N_sooner_of ["service", "days", "kilometers"] (defScope s_sooner_of) := ⟨rfl, rfl, rfl, by decide +kernel, rfl, by decide +kernel, by decide +kernel⟩
noncomputable def m_sooner_of (g_is_within : List D → Option D) (g_check_service : List D → Option D) : FS := (sSeq (sExpr (mP (eFn 2 g_check_service (aCons (eVar 0) (aCons (eVar 1) aNil)))))
  (sSeq (sIf (mT (bNot (tst (eFn 3 g_is_within (aCons (eVar 2) (aCons (eC (.int 0)) (aCons (eC (.int 1000)) aNil))))))) sNever sNext)
  (sSeq (sSet 3 (mP (eLst aNil)))
  (sSeq (sFor (miSelf (mLend 0)) (bbName 4) (sSeq (sSet 5 (mP (eIf (tst (e2 cmpGt (eVar 2) (eC (.int 0)))) (e1 gNeg (e2 gFdiv (e2 gMul (e1 gNeg (eC (.int 100))) (e2 gIx (eVar 4) (eC (.int 0)))) (eVar 2))) (eFrz (e2 gIx (eVar 4) (eC (.int 0)))))))
  (sExpr (mApp 3 (mP (eCall gMin (aCons (e2 gIx (eVar 4) (eC (.int 0))) (aCons (eVar 5) aNil))))))))
  (sRet (mP (eCall gTupOf (aCons (eVar 3) aNil))))))))
theorem F_sooner_of {f : Addr} {fd : FuncData} (F : Fun K "sooner_of" "sooner_of" s_sooner_of f fd) (hb : L2.Binds K fd ["service", "days", "kilometers"] []) (hm : mg "sooner_of" = some (.ref f)) (z_tuple : mg "tuple" = none) (z_min : mg "min" = none) {g_is_within : List D → Option D} (F_is_within : FnD P w K mg base "is_within" 2 (spP K 3 g_is_within)) {g_check_service : List D → Option D} (F_check_service : FnD P w K mg base "check_service" 4 (spP K 2 g_check_service))
    {g : List D → Option D} (law : ∀ ds d, ds.length = 3 → g ds = some d → m_sooner_of g_is_within g_check_service (seP d) (envP ds 3)) : FnD P w K mg base "sooner_of" 5 (spP K 3 g) := by
  refine fnP (k := 4) F sc_sooner_of hb hm (fun cdv A outer s H E hr => ?_) law
  have hu := hu64 hr
  have hu1 := hu_of hr
  have nd := sc_sooner_of.nd
  exact ⟨_, (ss_cons (ss_expr (mm_pf (pf_fn F_check_service (hr.mono (by decide)) (ar_cons (pv' 0) (ar_cons (pv' 1) ar_nil)))))
    (ss_cons (ss_if (mt_pt (tt_not (tt_val (PF.pp (pf_fn F_is_within (hr.mono (by decide)) (ar_cons (pv' 2) (ar_cons (PF.pp pk_int) (ar_cons (PF.pp pk_int) ar_nil)))))))) (ss_one ss_never) ss_nil)
    (ss_cons (ss_set (i := 3) nd (mm_pf (pf_lst an_nil)))
    (ss_cons (ss_for (mi_self (mv_var 0)) (bg_name 4 nd) (ss_cons (ss_set (i := 5) nd (mm_pf (pf_if (tt_cmp (o_gt hu) (pv' 2) (PF.pp pk_int)) (pf_un o_neg (PF.pp (pf_op o_fdiv (PF.pp (pf_op o_mul (PF.pp (pf_un o_neg (PF.pp pk_int))) (pp_ix (pv' 4) (PF.pp pk_int)))) (pv' 2)))) (PP.frz (pp_ix (pv' 4) (PF.pp pk_int))))))
    (ss_one (ss_expr (mm_app (i := 3) (mm_pf (pf_cb (c_min hu) z_min (ar_cons (pp_ix (pv' 4) (PF.pp pk_int)) (ar_cons (pv' 5) ar_nil)))))))))
    (ss_one (ss_ret (mm_pf (pf_ct c_tuple z_tuple (ar_cons (pv' 3) ar_nil)))))))))⟩
abbrev s_check_marks : Stmt := topS 16
abbrev N_check_marks : List Str := ["belt", "marks", "mark", "teeth"]
theorem sc_check_marks : FnScope N_check_marks ["belt", "marks"] (defScope s_check_marks) := ⟨rfl, rfl, rfl, by decide +kernel, rfl, by decide +kernel, by decide +kernel⟩
noncomputable def m_check_marks (g_is_within : List D → Option D) (g_check_belt : List D → Option D) : FS := (sSeq (sExpr (mP (eFn 1 g_check_belt (aCons (eVar 0) aNil))))
  (sSeq (sIf (mT (bOr (bNot (tst (e1 (gIsa "tuple") (eVar 1)))) (tst (e2 cmpNe (eCall gLen (aCons (eVar 1) aNil)) (eCall gLen (aCons (eVar 0) aNil)))))) sNever sNext)
  (sIf (mT (bNot (tst (eCall gAll (aCons (eLc [2, 3] (iOf giZip (aCons (eVar 1) (aCons (eVar 0) aNil))) (bTup (bCons (bName 2) (bCons (bName 3) bNil))) bTrue (eFn 3 g_is_within (aCons (eVar 2) (aCons (eC (.int 0)) (aCons (e2 gSub (eVar 3) (eC (.int 1))) aNil))))) aNil))))) sNever sNext)))
theorem F_check_marks {f : Addr} {fd : FuncData} (F : Fun K "check_marks" "check_marks" s_check_marks f fd) (hb : L2.Binds K fd ["belt", "marks"] []) (hm : mg "check_marks" = some (.ref f)) (z_zip : mg "zip" = none) (z_all : mg "all" = none) (z_len : mg "len" = none) (z_isinstance : mg "isinstance" = none) (z_tuple : mg "tuple" = none) {g_is_within : List D → Option D} (F_is_within : FnD P w K mg base "is_within" 2 (spP K 3 g_is_within)) {g_check_belt : List D → Option D} (F_check_belt : FnD P w K mg base "check_belt" 6 (spP K 1 g_check_belt))
    {g : List D → Option D} (law : ∀ ds d, ds.length = 2 → g ds = some d → m_check_marks g_is_within g_check_belt (seP d) (envP ds 2)) : FnD P w K mg base "check_marks" 7 (spP K 2 g) := by
  refine fnP (k := 6) F sc_check_marks hb hm (fun cdv A outer s H E hr => ?_) law
  have hu := hu64 hr
  have hu1 := hu_of hr
  have nd := sc_check_marks.nd
  exact ⟨_, (ss_cons (ss_expr (mm_pf (pf_fn F_check_belt (hr.mono (by decide)) (ar_cons (pv' 0) ar_nil))))
    (ss_cons (ss_if (mt_pt (PWt.pt (tw_or (tt_not (tt_val (PF.pp (pf_isa z_isinstance z_tuple (pv' 1))))) (tw_or1 (tt_cmp (o_ne hu) (PF.pp (pf_cb (c_len) z_len (ar_cons (pv' 1) ar_nil))) (PF.pp (pf_cb (c_len) z_len (ar_cons (pv' 0) ar_nil)))))))) (ss_one ss_never) ss_nil)
    (ss_one (ss_if (mt_pt (tt_not (tt_val (PF.pp (pf_cb (c_all) z_all (ar_cons (PF.pp (pf_lc (own := [("mark", 2), ("teeth", 3)]) nd (pi_of (it_zip z_zip) (ar_cons (pv' 1) (ar_cons (pv' 0) ar_nil))) (blkOk_by (own := [("mark", 2), ("teeth", 3)]) (N := N_check_marks) (sc := defScope s_check_marks) (by decide +kernel)) (fun _ _ _ _ _ => (gt_tup (gs_cons (gt_name 2 nd) (gs_cons (gt_name 3 nd) gs_nil)) (bl_cons (bl_cons bl_nil)))) (fun _ _ _ _ _ => ts_nil) (fun _ _ _ _ _ => (pf_fn F_is_within (hr.mono (by decide)) (ar_cons (pv' 2) (ar_cons (PF.pp pk_int) (ar_cons (PF.pp (pf_op o_sub (pv' 3) (PF.pp pk_int))) ar_nil))))))) ar_nil)))))) (ss_one ss_never) ss_nil))))⟩
abbrev s_marks_stand : Stmt := topS 21
abbrev N_marks_stand : List Str := ["belt", "marks", "one", "moved", "step", "mark", "teeth", "other"]
theorem sc_marks_stand : FnScope N_marks_stand ["belt", "marks"] (defScope s_marks_stand) := ⟨rfl, rfl, rfl, by decide +kernel, rfl, by decide +kernel, by decide +kernel⟩
noncomputable def m_marks_stand (g_shared : List D → Option D) (g_check_marks : List D → Option D) : FS := (sSeq (sExpr (mP (eFn 2 g_check_marks (aCons (eVar 0) (aCons (eVar 1) aNil)))))
  (sSeq (sFor (miOf giRg1 (maCons (mP (eCall gLen (aCons (eVar 0) aNil))) maNil)) (bbName 2) (sFor (miOf giRg2 (maCons (mP (e2 gAdd (eVar 2) (eC (.int 1)))) (maCons (mP (eCall gLen (aCons (eVar 0) aNil))) maNil))) (bbName 7) (sIf (mT (tst (e2 cmpGt (e2 gMod (e2 gSub (e2 gIx (eVar 1) (eVar 2)) (e2 gIx (eVar 1) (eVar 7))) (eFn 2 g_shared (aCons (e2 gIx (eVar 0) (eVar 2)) (aCons (e2 gIx (eVar 0) (eVar 7)) aNil)))) (eC (.int 0))))) (sRet (mP (eTup (aCons (eC (.str "never")) (aCons (eTup (aCons (eFrz (eVar 2)) (aCons (eFrz (eVar 7)) aNil))) aNil))))) sNext)))
  (sSeq (sAsg (bTup (bCons (mbName 3) (bCons (mbName 4) bNil))) (mP (eTup (aCons (eC (.int 0)) (aCons (eC (.int 1)) aNil)))))
  (sSeq (sFor (miOf giZip (maCons (mLend 1) (maCons (mLend 0) maNil))) (bTup (bCons (bbName 5) (bCons (bbName 6) bNil))) (sSeq (sWhile (mT (tst (e2 cmpNe (e2 gMod (eVar 3) (eVar 6)) (eVar 5)))) (sAug 3 gAddI (mLend 4)))
  (sSet 4 (mP (e2 gFdiv (e2 gMul (eVar 4) (eVar 6)) (eFn 2 g_shared (aCons (eVar 4) (aCons (eVar 6) aNil))))))))
  (sRet (mP (eTup (aCons (eC (.str "moved")) (aCons (eFrz (eVar 3)) aNil)))))))))
theorem F_marks_stand {f : Addr} {fd : FuncData} (F : Fun K "marks_stand" "marks_stand" s_marks_stand f fd) (hb : L2.Binds K fd ["belt", "marks"] []) (hm : mg "marks_stand" = some (.ref f)) (z_zip : mg "zip" = none) (z_range : mg "range" = none) (z_len : mg "len" = none) {g_shared : List D → Option D} (F_shared : FnD P w K mg base "shared" 1 (spP K 2 g_shared)) {g_check_marks : List D → Option D} (F_check_marks : FnD P w K mg base "check_marks" 7 (spP K 2 g_check_marks))
    {g : List D → Option D} (law : ∀ ds d, ds.length = 2 → g ds = some d → m_marks_stand g_shared g_check_marks (seP d) (envP ds 6)) : FnD P w K mg base "marks_stand" 8 (spP K 2 g) := by
  refine fnP (k := 7) F sc_marks_stand hb hm (fun cdv A outer s H E hr => ?_) law
  have hu := hu64 hr
  have hu1 := hu_of hr
  have nd := sc_marks_stand.nd
  exact ⟨_, (ss_cons (ss_expr (mm_pf (pf_fn F_check_marks (hr.mono (by decide)) (ar_cons (pv' 0) (ar_cons (pv' 1) ar_nil)))))
    (ss_cons (ss_for (mi_of (it_rg1 z_range) (ma_cons (mv_pf (pf_cb (c_len) z_len (ar_cons (pv' 0) ar_nil))) ma_nil)) (bg_name 2 nd) (ss_one (ss_for (mi_of (it_rg2 z_range) (ma_cons (mv_pf (pf_op o_add (pv' 2) (PF.pp pk_int))) (ma_cons (mv_pf (pf_cb (c_len) z_len (ar_cons (pv' 0) ar_nil))) ma_nil))) (bg_name 7 nd) (ss_one (ss_if (mt_pt (tt_cmp (o_gt hu) (PF.pp (pf_op o_mod (PF.pp (pf_op o_sub (pp_ix (pv' 1) (pv' 2)) (pp_ix (pv' 1) (pv' 7)))) (PF.pp (pf_fn F_shared (hr.mono (by decide)) (ar_cons (pp_ix (pv' 0) (pv' 2)) (ar_cons (pp_ix (pv' 0) (pv' 7)) ar_nil)))))) (PF.pp pk_int))) (ss_one (ss_ret (mm_pf (pf_tup (an_cons pk_str (an_cons (pf_tup (an_cons (PP.frz (pv' 2)) (an_cons (PP.frz (pv' 7)) an_nil))) an_nil)))))) ss_nil)))))
    (ss_cons (ss_asg (mm_pf (pf_tup (an_cons pk_int (an_cons pk_int an_nil)))) (mg_tup (mgs_cons (mg_name 3 nd) (mgs_cons (mg_name 4 nd) mgs_nil)) (bl_cons (bl_cons bl_nil))))
    (ss_cons (ss_for (mi_of (it_zip z_zip) (ma_cons (mv_var 1) (ma_cons (mv_var 0) ma_nil))) (bg_tup (bgs_cons (bg_name 5 nd) (bgs_cons (bg_name 6 nd) bgs_nil)) (bl_cons (bl_cons bl_nil))) (ss_cons (ss_while (mt_pt (tt_cmp (o_ne hu) (PF.pp (pf_op o_mod (pv' 3) (pv' 6))) (pv' 5))) (ss_one (ss_aug (i := 3) nd i_add (mv_var 4))))
    (ss_one (ss_set (i := 4) nd (mm_pf (pf_op o_fdiv (PF.pp (pf_op o_mul (pv' 4) (pv' 6))) (PF.pp (pf_fn F_shared (hr.mono (by decide)) (ar_cons (pv' 4) (ar_cons (pv' 6) ar_nil))))))))))
    (ss_one (ss_ret (mm_pf (pf_tup (an_cons pk_str (an_cons (PP.frz (pv' 3)) an_nil))))))))))⟩
abbrev s_next_stand : Stmt := topS 24
abbrev N_next_stand : List Str := ["belt", "marks", "moved", "word", "first", "whole"]
theorem sc_next_stand : FnScope N_next_stand ["belt", "marks", "moved"] (defScope s_next_stand) := ⟨rfl, rfl, rfl, by decide +kernel, rfl, by decide +kernel, by decide +kernel⟩
noncomputable def m_next_stand (g_round_of : List D → Option D) (g_check_moved : List D → Option D) (g_marks_stand : List D → Option D) : FS := (sSeq (sAsg (bTup (bCons (mbName 3) (bCons (mbName 4) bNil))) (mP (eFn 2 g_marks_stand (aCons (eVar 0) (aCons (eVar 1) aNil)))))
  (sSeq (sExpr (mP (eFn 1 g_check_moved (aCons (eVar 2) aNil))))
  (sSeq (sIf (mT (tst (e2 cmpEq (eVar 3) (eC (.str "never"))))) (sRet (mP (eC .none))) sNext)
  (sSeq (sSet 5 (mP (eFn 1 g_round_of (aCons (eVar 0) aNil))))
  (sRet (mP (eIf (tst (e2 cmpLt (eVar 2) (eVar 4))) (eFrz (eVar 4)) (e2 gAdd (eVar 4) (e2 gMul (e2 gAdd (e2 gFdiv (e2 gSub (eVar 2) (eVar 4)) (eVar 5)) (eC (.int 1))) (eVar 5))))))))))
theorem F_next_stand {f : Addr} {fd : FuncData} (F : Fun K "next_stand" "next_stand" s_next_stand f fd) (hb : L2.Binds K fd ["belt", "marks", "moved"] []) (hm : mg "next_stand" = some (.ref f)) {g_round_of : List D → Option D} (F_round_of : FnD P w K mg base "round_of" 7 (spP K 1 g_round_of)) {g_check_moved : List D → Option D} (F_check_moved : FnD P w K mg base "check_moved" 3 (spP K 1 g_check_moved)) {g_marks_stand : List D → Option D} (F_marks_stand : FnD P w K mg base "marks_stand" 8 (spP K 2 g_marks_stand))
    {g : List D → Option D} (law : ∀ ds d, ds.length = 3 → g ds = some d → m_next_stand g_round_of g_check_moved g_marks_stand (seP d) (envP ds 3)) : FnD P w K mg base "next_stand" 9 (spP K 3 g) := by
  refine fnP (k := 8) F sc_next_stand hb hm (fun cdv A outer s H E hr => ?_) law
  have hu := hu64 hr
  have hu1 := hu_of hr
  have nd := sc_next_stand.nd
  exact ⟨_, (ss_cons (ss_asg (mm_pf (pf_fn F_marks_stand (hr.mono (by decide)) (ar_cons (pv' 0) (ar_cons (pv' 1) ar_nil)))) (mg_tup (mgs_cons (mg_name 3 nd) (mgs_cons (mg_name 4 nd) mgs_nil)) (bl_cons (bl_cons bl_nil))))
    (ss_cons (ss_expr (mm_pf (pf_fn F_check_moved (hr.mono (by decide)) (ar_cons (pv' 2) ar_nil))))
    (ss_cons (ss_if (mt_pt (tt_cmp (o_eq hu) (pv' 3) (PF.pp pk_str))) (ss_one (ss_ret (mm_pf pk_non))) ss_nil)
    (ss_cons (ss_set (i := 5) nd (mm_pf (pf_fn F_round_of (hr.mono (by decide)) (ar_cons (pv' 0) ar_nil))))
    (ss_one (ss_ret (mm_pf (pf_if (tt_cmp (o_lt hu) (pv' 2) (pv' 4)) (PP.frz (pv' 4)) (pf_op o_add (pv' 4) (PF.pp (pf_op o_mul (PF.pp (pf_op o_add (PF.pp (pf_op o_fdiv (PF.pp (pf_op o_sub (pv' 2) (pv' 4))) (pv' 5))) (PF.pp pk_int))) (pv' 5))))))))))))⟩
abbrev s_all_agree : Stmt := topS 28
abbrev N_all_agree : List Str := ["belt", "marks", "wheels", "one", "other"]
theorem sc_all_agree : FnScope N_all_agree ["belt", "marks", "wheels"] (defScope s_all_agree) := ⟨rfl, rfl, rfl, by decide +kernel, rfl, by decide +kernel, by decide +kernel⟩
noncomputable def m_all_agree (g_shared : List D → Option D) : FS := (sSeq (sFor (miSelf (mLend 2)) (bbName 3) (sFor (miSelf (mLend 2)) (bbName 4) (sIf (mT (tst (e2 cmpGt (e2 gMod (e2 gSub (e2 gIx (eVar 1) (eVar 3)) (e2 gIx (eVar 1) (eVar 4))) (eFn 2 g_shared (aCons (e2 gIx (eVar 0) (eVar 3)) (aCons (e2 gIx (eVar 0) (eVar 4)) aNil)))) (eC (.int 0))))) (sRet (mP (eC (.bool false)))) sNext)))
  (sRet (mP (eC (.bool true)))))
theorem F_all_agree {f : Addr} {fd : FuncData} (F : Fun K "all_agree" "all_agree" s_all_agree f fd) (hb : L2.Binds K fd ["belt", "marks", "wheels"] []) (hm : mg "all_agree" = some (.ref f)) {g_shared : List D → Option D} (F_shared : FnD P w K mg base "shared" 1 (spP K 2 g_shared))
    {g : List D → Option D} (law : ∀ ds d, ds.length = 3 → g ds = some d → m_all_agree g_shared (seP d) (envP ds 2)) : FnD P w K mg base "all_agree" 2 (spP K 3 g) := by
  refine fnP (k := 1) F sc_all_agree hb hm (fun cdv A outer s H E hr => ?_) law
  have hu := hu64 hr
  have hu1 := hu_of hr
  have nd := sc_all_agree.nd
  exact ⟨_, (ss_cons (ss_for (mi_self (mv_var 2)) (bg_name 3 nd) (ss_one (ss_for (mi_self (mv_var 2)) (bg_name 4 nd) (ss_one (ss_if (mt_pt (tt_cmp (o_gt hu) (PF.pp (pf_op o_mod (PF.pp (pf_op o_sub (pp_ix (pv' 1) (pv' 3)) (pp_ix (pv' 1) (pv' 4)))) (PF.pp (pf_fn F_shared (hr.mono (by decide)) (ar_cons (pp_ix (pv' 0) (pv' 3)) (ar_cons (pp_ix (pv' 0) (pv' 4)) ar_nil)))))) (PF.pp pk_int))) (ss_one (ss_ret (mm_pf pk_bl))) ss_nil)))))
    (ss_one (ss_ret (mm_pf pk_bl))))⟩
abbrev s_slips_for : Stmt := topS 27
abbrev N_slips_for : List Str := ["belt", "marks", "lots", "wheel", "size", "lot"]
theorem sc_slips_for : FnScope N_slips_for ["belt", "marks"] (defScope s_slips_for) := ⟨rfl, rfl, rfl, by decide +kernel, rfl, by decide +kernel, by decide +kernel⟩
noncomputable def m_slips_for (g_all_agree : List D → Option D) (g_check_marks : List D → Option D) : FS := (sSeq (sExpr (mP (eFn 2 g_check_marks (aCons (eVar 0) (aCons (eVar 1) aNil)))))
  (sSeq (sSet 2 (mP (eLst (aCons (eTup aNil) aNil))))
  (sSeq (sFor (miOf giRg1 (maCons (mP (eCall gLen (aCons (eVar 0) aNil))) maNil)) (bbName 3) (sSet 2 (mP (e2 gAdd (eVar 2) (eLc [5] (iSelf (eVar 2)) (bName 5) bTrue (e2 gAdd (eVar 5) (eTup (aCons (eFrz (eVar 3)) aNil))))))))
  (sSeq (sFor (miSelf (mP (eCall gSorted (aCons (eLc [5] (iSelf (eVar 2)) (bName 5) bTrue (eTup (aCons (eCall gLen (aCons (eVar 5) aNil)) (aCons (eFrz (eVar 5)) aNil)))) aNil)))) (bTup (bCons (bbName 4) (bCons (bbName 5) bNil))) (sIf (mT (tst (eFn 3 g_all_agree (aCons (eVar 0) (aCons (eVar 1) (aCons (eLc [3] (iOf giRg1 (aCons (eCall gLen (aCons (eVar 0) aNil)) aNil)) (bName 3) (tst (e2 cmpNin (eVar 3) (eVar 5))) (eFrz (eVar 3))) aNil)))))) (sRet (mVar 5)) sNext))
  (sRet (mP (eC .none)))))))
theorem F_slips_for {f : Addr} {fd : FuncData} (F : Fun K "slips_for" "slips_for" s_slips_for f fd) (hb : L2.Binds K fd ["belt", "marks"] []) (hm : mg "slips_for" = some (.ref f)) (z_len : mg "len" = none) (z_sorted : mg "sorted" = none) (z_range : mg "range" = none) {g_all_agree : List D → Option D} (F_all_agree : FnD P w K mg base "all_agree" 2 (spP K 3 g_all_agree)) {g_check_marks : List D → Option D} (F_check_marks : FnD P w K mg base "check_marks" 7 (spP K 2 g_check_marks))
    {g : List D → Option D} (law : ∀ ds d, ds.length = 2 → g ds = some d → m_slips_for g_all_agree g_check_marks (seP d) (envP ds 4)) : FnD P w K mg base "slips_for" 8 (spP K 2 g) := by
  refine fnP (k := 7) F sc_slips_for hb hm (fun cdv A outer s H E hr => ?_) law
  have hu := hu64 hr
  have hu1 := hu_of hr
  have nd := sc_slips_for.nd
  exact ⟨_, (ss_cons (ss_expr (mm_pf (pf_fn F_check_marks (hr.mono (by decide)) (ar_cons (pv' 0) (ar_cons (pv' 1) ar_nil)))))
    (ss_cons (ss_set (i := 2) nd (mm_pf (pf_lst (an_cons (pf_tup an_nil) an_nil))))
    (ss_cons (ss_for (mi_of (it_rg1 z_range) (ma_cons (mv_pf (pf_cb (c_len) z_len (ar_cons (pv' 0) ar_nil))) ma_nil)) (bg_name 3 nd) (ss_one (ss_set (i := 2) nd (mm_pf (pf_op o_add (pv' 2) (PF.pp (pf_lc (own := [("lot", 5)]) nd (pi_self (pv' 2)) (blkOk_by (own := [("lot", 5)]) (N := N_slips_for) (sc := defScope s_slips_for) (by decide +kernel)) (fun _ _ _ _ _ => (gt_name 5 nd)) (fun _ _ _ _ _ => ts_nil) (fun _ _ _ _ _ => (pf_op o_add (pv' 5) (PF.pp (pf_tup (an_cons (PP.frz (pv' 3)) an_nil))))))))))))
    (ss_cons (ss_for (mi_self (mv_pf (pf_cb (c_sorted hu) z_sorted (ar_cons (PF.pp (pf_lc (own := [("lot", 5)]) nd (pi_self (pv' 2)) (blkOk_by (own := [("lot", 5)]) (N := N_slips_for) (sc := defScope s_slips_for) (by decide +kernel)) (fun _ _ _ _ _ => (gt_name 5 nd)) (fun _ _ _ _ _ => ts_nil) (fun _ _ _ _ _ => (pf_tup (an_cons (pf_cb (c_len) z_len (ar_cons (pv' 5) ar_nil)) (an_cons (PP.frz (pv' 5)) an_nil)))))) ar_nil)))) (bg_tup (bgs_cons (bg_name 4 nd) (bgs_cons (bg_name 5 nd) bgs_nil)) (bl_cons (bl_cons bl_nil))) (ss_one (ss_if (mt_pt (tt_val (PF.pp (pf_fn F_all_agree (hr.mono (by decide)) (ar_cons (pv' 0) (ar_cons (pv' 1) (ar_cons (PF.pp (pf_lc (own := [("wheel", 3)]) nd (pi_of (it_rg1 z_range) (ar_cons (PF.pp (pf_cb (c_len) z_len (ar_cons (pv' 0) ar_nil))) ar_nil)) (blkOk_by (own := [("wheel", 3)]) (N := N_slips_for) (sc := defScope s_slips_for) (by decide +kernel)) (fun _ _ _ _ _ => (gt_name 3 nd)) (fun _ _ _ _ _ => (ts_one (tt_cmp (o_nin hu) (pv' 3) (pv' 5)))) (fun _ _ _ _ _ => (PP.frz (pv' 3))))) ar_nil))))))) (ss_one (ss_ret (mm_var 5))) ss_nil)))
    (ss_one (ss_ret (mm_pf pk_non)))))))⟩
abbrev s_never_many : Stmt := topS 25
abbrev N_never_many : List Str := ["belt", "every", "teeth"]
theorem sc_never_many : FnScope N_never_many ["belt"] (defScope s_never_many) := ⟨rfl, rfl, rfl, by decide +kernel, rfl, by decide +kernel, by decide +kernel⟩
noncomputable def m_never_many (g_round_of : List D → Option D) (g_check_belt : List D → Option D) : FS := (sSeq (sExpr (mP (eFn 1 g_check_belt (aCons (eVar 0) aNil))))
  (sSeq (sSet 1 (mP (eC (.int 1))))
  (sSeq (sFor (miSelf (mLend 0)) (bbName 2) (sSet 1 (mP (e2 gMul (eVar 1) (eVar 2)))))
  (sRet (mP (e2 gSub (eVar 1) (eFn 1 g_round_of (aCons (eVar 0) aNil))))))))
theorem F_never_many {f : Addr} {fd : FuncData} (F : Fun K "never_many" "never_many" s_never_many f fd) (hb : L2.Binds K fd ["belt"] []) (hm : mg "never_many" = some (.ref f)) {g_round_of : List D → Option D} (F_round_of : FnD P w K mg base "round_of" 7 (spP K 1 g_round_of)) {g_check_belt : List D → Option D} (F_check_belt : FnD P w K mg base "check_belt" 6 (spP K 1 g_check_belt))
    {g : List D → Option D} (law : ∀ ds d, ds.length = 1 → g ds = some d → m_never_many g_round_of g_check_belt (seP d) (envP ds 2)) : FnD P w K mg base "never_many" 8 (spP K 1 g) := by
  refine fnP (k := 7) F sc_never_many hb hm (fun cdv A outer s H E hr => ?_) law
  have hu := hu64 hr
  have hu1 := hu_of hr
  have nd := sc_never_many.nd
  exact ⟨_, (ss_cons (ss_expr (mm_pf (pf_fn F_check_belt (hr.mono (by decide)) (ar_cons (pv' 0) ar_nil))))
    (ss_cons (ss_set (i := 1) nd (mm_pf pk_int))
    (ss_cons (ss_for (mi_self (mv_var 0)) (bg_name 2 nd) (ss_one (ss_set (i := 1) nd (mm_pf (pf_op o_mul (pv' 1) (pv' 2))))))
    (ss_one (ss_ret (mm_pf (pf_op o_sub (pv' 1) (PF.pp (pf_fn F_round_of (hr.mono (by decide)) (ar_cons (pv' 0) ar_nil))))))))))⟩
abbrev s_slipped : Stmt := topS 26
abbrev N_slipped : List Str := ["belt", "marks", "wheel", "teeth"]
theorem sc_slipped : FnScope N_slipped ["belt", "marks", "wheel", "teeth"] (defScope s_slipped) := ⟨rfl, rfl, rfl, by decide +kernel, rfl, by decide +kernel, by decide +kernel⟩
noncomputable def m_slipped (g_is_within : List D → Option D) (g_check_marks : List D → Option D) : FS := (sSeq (sExpr (mP (eFn 2 g_check_marks (aCons (eVar 0) (aCons (eVar 1) aNil)))))
  (sSeq (sIf (mT (bOr (bNot (tst (eFn 3 g_is_within (aCons (eVar 2) (aCons (eC (.int 0)) (aCons (e2 gSub (eCall gLen (aCons (eVar 0) aNil)) (eC (.int 1))) aNil)))))) (bNot (tst (eFn 3 g_is_within (aCons (eVar 3) (aCons (e1 gNeg (eC (.int 400))) (aCons (eC (.int 400)) aNil)))))))) sNever sNext)
  (sRet (mP (e2 gAdd (e2 gAdd (eSl (eVar 1) oNone (oSome (eVar 2))) (eTup (aCons (e2 gMod (e2 gAdd (e2 gIx (eVar 1) (eVar 2)) (eVar 3)) (e2 gIx (eVar 0) (eVar 2))) aNil))) (eSl (eVar 1) (oSome (e2 gAdd (eVar 2) (eC (.int 1)))) oNone))))))
theorem F_slipped {f : Addr} {fd : FuncData} (F : Fun K "slipped" "slipped" s_slipped f fd) (hb : L2.Binds K fd ["belt", "marks", "wheel", "teeth"] []) (hm : mg "slipped" = some (.ref f)) (z_len : mg "len" = none) {g_is_within : List D → Option D} (F_is_within : FnD P w K mg base "is_within" 2 (spP K 3 g_is_within)) {g_check_marks : List D → Option D} (F_check_marks : FnD P w K mg base "check_marks" 7 (spP K 2 g_check_marks))
    {g : List D → Option D} (law : ∀ ds d, ds.length = 4 → g ds = some d → m_slipped g_is_within g_check_marks (seP d) (envP ds 0)) : FnD P w K mg base "slipped" 8 (spP K 4 g) := by
  refine fnP (k := 7) F sc_slipped hb hm (fun cdv A outer s H E hr => ?_) law
  have hu := hu64 hr
  have hu1 := hu_of hr
  have nd := sc_slipped.nd
  exact ⟨_, (ss_cons (ss_expr (mm_pf (pf_fn F_check_marks (hr.mono (by decide)) (ar_cons (pv' 0) (ar_cons (pv' 1) ar_nil)))))
    (ss_cons (ss_if (mt_pt (PWt.pt (tw_or (tt_not (tt_val (PF.pp (pf_fn F_is_within (hr.mono (by decide)) (ar_cons (pv' 2) (ar_cons (PF.pp pk_int) (ar_cons (PF.pp (pf_op o_sub (PF.pp (pf_cb (c_len) z_len (ar_cons (pv' 0) ar_nil))) (PF.pp pk_int))) ar_nil))))))) (tw_or1 (tt_not (tt_val (PF.pp (pf_fn F_is_within (hr.mono (by decide)) (ar_cons (pv' 3) (ar_cons (PF.pp (pf_un o_neg (PF.pp pk_int))) (ar_cons (PF.pp pk_int) ar_nil))))))))))) (ss_one ss_never) ss_nil)
    (ss_one (ss_ret (mm_pf (pf_op o_add (PF.pp (pf_op o_add (PF.pp (pf_sl (pv' 1) or_none (or_some (pv' 2)))) (PF.pp (pf_tup (an_cons (pf_op o_mod (PF.pp (pf_op o_add (pp_ix (pv' 1) (pv' 2)) (pv' 3))) (pp_ix (pv' 0) (pv' 2))) an_nil))))) (PF.pp (pf_sl (pv' 1) (or_some (PF.pp (pf_op o_add (pv' 2) (PF.pp pk_int)))) or_none))))))))⟩
abbrev s_is_marks_stand : Stmt := topS 22
abbrev N_is_marks_stand : List Str := ["belt", "marks", "thing", "one", "other", "mark", "teeth"]
theorem sc_is_marks_stand : FnScope N_is_marks_stand ["belt", "marks", "thing"] (defScope s_is_marks_stand) := ⟨rfl, rfl, rfl, by decide +kernel, rfl, by decide +kernel, by decide +kernel⟩
noncomputable def m_is_marks_stand (g_shared : List D → Option D) (g_is_some : List D → Option D) (g_is_within : List D → Option D) (g_round_of : List D → Option D) (g_check_marks : List D → Option D) : FS := (sSeq (sExpr (mP (eFn 2 g_check_marks (aCons (eVar 0) (aCons (eVar 1) aNil)))))
  (sSeq (sIf (mT (bOr (bNot (tst (e1 (gIsa "tuple") (eVar 2)))) (bOr (tst (e2 cmpNe (eCall gLen (aCons (eVar 2) aNil)) (eC (.int 2)))) (bNot (tst (e1 (gIsa "str") (e2 gIx (eVar 2) (eC (.int 0))))))))) (sRet (mP (eC (.bool false)))) sNext)
  (sSeq (sIf (mT (tst (e2 cmpEq (e2 gIx (eVar 2) (eC (.int 0))) (eC (.str "moved"))))) (sSeq (sIf (mT (bNot (tst (eFn 3 g_is_within (aCons (e2 gIx (eVar 2) (eC (.int 1))) (aCons (eC (.int 0)) (aCons (e2 gSub (eFn 1 g_round_of (aCons (eVar 0) aNil)) (eC (.int 1))) aNil))))))) (sRet (mP (eC (.bool false)))) sNext)
  (sRet (mP (eCall gAll (aCons (eLc [5, 6] (iOf giZip (aCons (eVar 1) (aCons (eVar 0) aNil))) (bTup (bCons (bName 5) (bCons (bName 6) bNil))) bTrue (e2 cmpEq (e2 gMod (e2 gIx (eVar 2) (eC (.int 1))) (eVar 6)) (eVar 5))) aNil))))) sNext)
  (sSeq (sIf (mT (bOr (tst (e2 cmpNe (e2 gIx (eVar 2) (eC (.int 0))) (eC (.str "never")))) (bOr (bNot (tst (eFn 5 g_is_some (aCons (e2 gIx (eVar 2) (eC (.int 1))) (aCons (eC (.int 2)) (aCons (eC (.int 2)) (aCons (eC (.int 0)) (aCons (e2 gSub (eCall gLen (aCons (eVar 0) aNil)) (eC (.int 1))) aNil)))))))) (tst (e2 cmpGe (e2 gIx (e2 gIx (eVar 2) (eC (.int 1))) (eC (.int 0))) (e2 gIx (e2 gIx (eVar 2) (eC (.int 1))) (eC (.int 1)))))))) (sRet (mP (eC (.bool false)))) sNext)
  (sSeq (sAsg (bTup (bCons (mbName 3) (bCons (mbName 4) bNil))) (mP (eFrz (e2 gIx (eVar 2) (eC (.int 1))))))
  (sRet (mP (e2 cmpGt (e2 gMod (e2 gSub (e2 gIx (eVar 1) (eVar 3)) (e2 gIx (eVar 1) (eVar 4))) (eFn 2 g_shared (aCons (e2 gIx (eVar 0) (eVar 3)) (aCons (e2 gIx (eVar 0) (eVar 4)) aNil)))) (eC (.int 0))))))))))
theorem F_is_marks_stand {f : Addr} {fd : FuncData} (F : Fun K "is_marks_stand" "is_marks_stand" s_is_marks_stand f fd) (hb : L2.Binds K fd ["belt", "marks", "thing"] []) (hm : mg "is_marks_stand" = some (.ref f)) (z_len : mg "len" = none) (z_zip : mg "zip" = none) (z_all : mg "all" = none) (z_isinstance : mg "isinstance" = none) (z_str : mg "str" = none) (z_tuple : mg "tuple" = none) {g_shared : List D → Option D} (F_shared : FnD P w K mg base "shared" 1 (spP K 2 g_shared)) {g_is_some : List D → Option D} (F_is_some : FnD P w K mg base "is_some" 4 (spP K 5 g_is_some)) {g_is_within : List D → Option D} (F_is_within : FnD P w K mg base "is_within" 2 (spP K 3 g_is_within)) {g_round_of : List D → Option D} (F_round_of : FnD P w K mg base "round_of" 7 (spP K 1 g_round_of)) {g_check_marks : List D → Option D} (F_check_marks : FnD P w K mg base "check_marks" 7 (spP K 2 g_check_marks))
    {g : List D → Option D} (law : ∀ ds d, ds.length = 3 → g ds = some d → m_is_marks_stand g_shared g_is_some g_is_within g_round_of g_check_marks (seP d) (envP ds 4)) : FnD P w K mg base "is_marks_stand" 8 (spP K 3 g) := by
  refine fnP (k := 7) F sc_is_marks_stand hb hm (fun cdv A outer s H E hr => ?_) law
  have hu := hu64 hr
  have hu1 := hu_of hr
  have nd := sc_is_marks_stand.nd
  exact ⟨_, (ss_cons (ss_expr (mm_pf (pf_fn F_check_marks (hr.mono (by decide)) (ar_cons (pv' 0) (ar_cons (pv' 1) ar_nil)))))
    (ss_cons (ss_if (mt_pt (PWt.pt (tw_or (tt_not (tt_val (PF.pp (pf_isa z_isinstance z_tuple (pv' 2))))) (tw_or (tt_cmp (o_ne hu) (PF.pp (pf_cb (c_len) z_len (ar_cons (pv' 2) ar_nil))) (PF.pp pk_int)) (tw_or1 (tt_not (tt_val (PF.pp (pf_isa z_isinstance z_str (pp_ix (pv' 2) (PF.pp pk_int))))))))))) (ss_one (ss_ret (mm_pf pk_bl))) ss_nil)
    (ss_cons (ss_if (mt_pt (tt_cmp (o_eq hu) (pp_ix (pv' 2) (PF.pp pk_int)) (PF.pp pk_str))) (ss_cons (ss_if (mt_pt (tt_not (tt_val (PF.pp (pf_fn F_is_within (hr.mono (by decide)) (ar_cons (pp_ix (pv' 2) (PF.pp pk_int)) (ar_cons (PF.pp pk_int) (ar_cons (PF.pp (pf_op o_sub (PF.pp (pf_fn F_round_of (hr.mono (by decide)) (ar_cons (pv' 0) ar_nil))) (PF.pp pk_int))) ar_nil)))))))) (ss_one (ss_ret (mm_pf pk_bl))) ss_nil)
    (ss_one (ss_ret (mm_pf (pf_cb (c_all) z_all (ar_cons (PF.pp (pf_lc (own := [("mark", 5), ("teeth", 6)]) nd (pi_of (it_zip z_zip) (ar_cons (pv' 1) (ar_cons (pv' 0) ar_nil))) (blkOk_by (own := [("mark", 5), ("teeth", 6)]) (N := N_is_marks_stand) (sc := defScope s_is_marks_stand) (by decide +kernel)) (fun _ _ _ _ _ => (gt_tup (gs_cons (gt_name 5 nd) (gs_cons (gt_name 6 nd) gs_nil)) (bl_cons (bl_cons bl_nil)))) (fun _ _ _ _ _ => ts_nil) (fun _ _ _ _ _ => (pf_cmp (o_eq hu) (PF.pp (pf_op o_mod (pp_ix (pv' 2) (PF.pp pk_int)) (pv' 6))) (pv' 5))))) ar_nil)))))) ss_nil)
    (ss_cons (ss_if (mt_pt (PWt.pt (tw_or (tt_cmp (o_ne hu) (pp_ix (pv' 2) (PF.pp pk_int)) (PF.pp pk_str)) (tw_or (tt_not (tt_val (PF.pp (pf_fn F_is_some (hr.mono (by decide)) (ar_cons (pp_ix (pv' 2) (PF.pp pk_int)) (ar_cons (PF.pp pk_int) (ar_cons (PF.pp pk_int) (ar_cons (PF.pp pk_int) (ar_cons (PF.pp (pf_op o_sub (PF.pp (pf_cb (c_len) z_len (ar_cons (pv' 0) ar_nil))) (PF.pp pk_int))) ar_nil))))))))) (tw_or1 (tt_cmp (o_ge hu) (pp_ix (pp_ix (pv' 2) (PF.pp pk_int)) (PF.pp pk_int)) (pp_ix (pp_ix (pv' 2) (PF.pp pk_int)) (PF.pp pk_int)))))))) (ss_one (ss_ret (mm_pf pk_bl))) ss_nil)
    (ss_cons (ss_asg (mm_pf (PP.frz (pp_ix (pv' 2) (PF.pp pk_int)))) (mg_tup (mgs_cons (mg_name 3 nd) (mgs_cons (mg_name 4 nd) mgs_nil)) (bl_cons (bl_cons bl_nil))))
    (ss_one (ss_ret (mm_pf (pf_cmp (o_gt hu) (PF.pp (pf_op o_mod (PF.pp (pf_op o_sub (pp_ix (pv' 1) (pv' 3)) (pp_ix (pv' 1) (pv' 4)))) (PF.pp (pf_fn F_shared (hr.mono (by decide)) (ar_cons (pp_ix (pv' 0) (pv' 3)) (ar_cons (pp_ix (pv' 0) (pv' 4)) ar_nil)))))) (PF.pp pk_int))))))))))⟩
abbrev s_wheel_between : Stmt := topS 29
abbrev N_wheel_between : List Str := ["belt", "one", "other", "same"]
theorem sc_wheel_between : FnScope N_wheel_between ["belt", "one", "other"] (defScope s_wheel_between) := ⟨rfl, rfl, rfl, by decide +kernel, rfl, by decide +kernel, by decide +kernel⟩
noncomputable def m_wheel_between (g_shared : List D → Option D) (g_is_within : List D → Option D) (g_check_belt : List D → Option D) : FS := (sSeq (sExpr (mP (eFn 1 g_check_belt (aCons (eVar 0) aNil))))
  (sSeq (sIf (mT (bOr (bNot (tst (eFn 3 g_is_within (aCons (eVar 1) (aCons (eC (.int 0)) (aCons (e2 gSub (eCall gLen (aCons (eVar 0) aNil)) (eC (.int 1))) aNil)))))) (bNot (tst (eFn 3 g_is_within (aCons (eVar 2) (aCons (eC (.int 0)) (aCons (e2 gSub (eCall gLen (aCons (eVar 0) aNil)) (eC (.int 1))) aNil)))))))) sNever sNext)
  (sSeq (sSet 3 (mP (eFn 2 g_shared (aCons (e2 gIx (eVar 0) (eVar 1)) (aCons (e2 gIx (eVar 0) (eVar 2)) aNil)))))
  (sRet (mP (eTup (aCons (e2 gFdiv (e2 gIx (eVar 0) (eVar 2)) (eVar 3)) (aCons (e2 gFdiv (e2 gIx (eVar 0) (eVar 1)) (eVar 3)) aNil))))))))
theorem F_wheel_between {f : Addr} {fd : FuncData} (F : Fun K "wheel_between" "wheel_between" s_wheel_between f fd) (hb : L2.Binds K fd ["belt", "one", "other"] []) (hm : mg "wheel_between" = some (.ref f)) (z_len : mg "len" = none) {g_shared : List D → Option D} (F_shared : FnD P w K mg base "shared" 1 (spP K 2 g_shared)) {g_is_within : List D → Option D} (F_is_within : FnD P w K mg base "is_within" 2 (spP K 3 g_is_within)) {g_check_belt : List D → Option D} (F_check_belt : FnD P w K mg base "check_belt" 6 (spP K 1 g_check_belt))
    {g : List D → Option D} (law : ∀ ds d, ds.length = 3 → g ds = some d → m_wheel_between g_shared g_is_within g_check_belt (seP d) (envP ds 1)) : FnD P w K mg base "wheel_between" 7 (spP K 3 g) := by
  refine fnP (k := 6) F sc_wheel_between hb hm (fun cdv A outer s H E hr => ?_) law
  have hu := hu64 hr
  have hu1 := hu_of hr
  have nd := sc_wheel_between.nd
  exact ⟨_, (ss_cons (ss_expr (mm_pf (pf_fn F_check_belt (hr.mono (by decide)) (ar_cons (pv' 0) ar_nil))))
    (ss_cons (ss_if (mt_pt (PWt.pt (tw_or (tt_not (tt_val (PF.pp (pf_fn F_is_within (hr.mono (by decide)) (ar_cons (pv' 1) (ar_cons (PF.pp pk_int) (ar_cons (PF.pp (pf_op o_sub (PF.pp (pf_cb (c_len) z_len (ar_cons (pv' 0) ar_nil))) (PF.pp pk_int))) ar_nil))))))) (tw_or1 (tt_not (tt_val (PF.pp (pf_fn F_is_within (hr.mono (by decide)) (ar_cons (pv' 2) (ar_cons (PF.pp pk_int) (ar_cons (PF.pp (pf_op o_sub (PF.pp (pf_cb (c_len) z_len (ar_cons (pv' 0) ar_nil))) (PF.pp pk_int))) ar_nil))))))))))) (ss_one ss_never) ss_nil)
    (ss_cons (ss_set (i := 3) nd (mm_pf (pf_fn F_shared (hr.mono (by decide)) (ar_cons (pp_ix (pv' 0) (pv' 1)) (ar_cons (pp_ix (pv' 0) (pv' 2)) ar_nil)))))
    (ss_one (ss_ret (mm_pf (pf_tup (an_cons (pf_op o_fdiv (pp_ix (pv' 0) (pv' 2)) (pv' 3)) (an_cons (pf_op o_fdiv (pp_ix (pv' 0) (pv' 1)) (pv' 3)) an_nil)))))))))⟩
abbrev s_check_teeth : Stmt := topS 32
abbrev N_check_teeth : List Str := ["numbers", "one"]
theorem sc_check_teeth : FnScope N_check_teeth ["numbers"] (defScope s_check_teeth) := ⟨rfl, rfl, rfl, by decide +kernel, rfl, by decide +kernel, by decide +kernel⟩
noncomputable def m_check_teeth (g_is_within : List D → Option D) : FS := (sIf (mT (bNot (tst (eCall gAll (aCons (eLc [1] (iSelf (eVar 0)) (bName 1) bTrue (eFn 3 g_is_within (aCons (eVar 1) (aCons (eC (.int 2)) (aCons (eC (.int 1000)) aNil))))) aNil))))) sNever sNext)
theorem F_check_teeth {f : Addr} {fd : FuncData} (F : Fun K "check_teeth" "check_teeth" s_check_teeth f fd) (hm : mg "check_teeth" = some (.ref f)) (z_all : mg "all" = none) {g_is_within : List D → Option D} (F_is_within : FnD P w K mg base "is_within" 2 (spP K 3 g_is_within)) (hb : ∀ (dV kV doc pm cdv ct : Value) (an : Option Addr) (us rest : List Value), us.length = ([] : List Str).length → bindArgs (PySem.W.fnOf "check_teeth" "check_teeth" (defArgs s_check_teeth) (defBody s_check_teeth) (defScope s_check_teeth) .none kV doc pm an cdv ct) ⟨us ++ rest, []⟩ = (newTuple rest >>= fun t => pure (([] : List Str).zip us ++ [(("numbers" : Str), t)])))
    {g : D → Option D} {n : Nat} (hn : n ≤ 1000) (law : ∀ ds d, g (.tuple ds) = some d → m_check_teeth g_is_within (seP d) (envP [.tuple ds] 1)) : FnD P w K mg base "check_teeth" 3 (spP K n fun ds => g (.tuple ds)) := by
  refine fnS (k := 2) hn F sc_check_teeth hm hb (fun cdv A outer s H E hr => ?_) law
  have hu := hu64 hr
  have hu1 := hu_of hr
  have nd := sc_check_teeth.nd
  exact ⟨_, (ss_one (ss_if (mt_pt (tt_not (tt_val (PF.pp (pf_cb (c_all) z_all (ar_cons (PF.pp (pf_lc (own := [("one", 1)]) nd (pi_self (pv' 0)) (blkOk_by (own := [("one", 1)]) (N := N_check_teeth) (sc := defScope s_check_teeth) (by decide +kernel)) (fun _ _ _ _ _ => (gt_name 1 nd)) (fun _ _ _ _ _ => ts_nil) (fun _ _ _ _ _ => (pf_fn F_is_within (hr.mono (by decide)) (ar_cons (pv' 1) (ar_cons (PF.pp pk_int) (ar_cons (PF.pp pk_int) ar_nil))))))) ar_nil)))))) (ss_one ss_never) ss_nil))⟩
abbrev s_same_meet : Stmt := topS 33
abbrev N_same_meet : List Str := ["one", "other"]
theorem sc_same_meet : FnScope N_same_meet ["one", "other"] (defScope s_same_meet) := ⟨rfl, rfl, rfl, by decide +kernel, rfl, by decide +kernel, by decide +kernel⟩
noncomputable def m_same_meet (g_shared : List D → Option D) (g_check_teeth : List D → Option D) : FS := (sSeq (sExpr (mP (eFn 2 g_check_teeth (aCons (eVar 0) (aCons (eVar 1) aNil)))))
  (sRet (mP (e2 gFdiv (e2 gMul (eVar 0) (eVar 1)) (eFn 2 g_shared (aCons (eVar 0) (aCons (eVar 1) aNil)))))))
theorem F_same_meet {f : Addr} {fd : FuncData} (F : Fun K "same_meet" "same_meet" s_same_meet f fd) (hb : L2.Binds K fd ["one", "other"] []) (hm : mg "same_meet" = some (.ref f)) {g_shared : List D → Option D} (F_shared : FnD P w K mg base "shared" 1 (spP K 2 g_shared)) {g_check_teeth : List D → Option D} (F_check_teeth : FnD P w K mg base "check_teeth" 3 (spP K 2 g_check_teeth))
    {g : List D → Option D} (law : ∀ ds d, ds.length = 2 → g ds = some d → m_same_meet g_shared g_check_teeth (seP d) (envP ds 0)) : FnD P w K mg base "same_meet" 4 (spP K 2 g) := by
  refine fnP (k := 3) F sc_same_meet hb hm (fun cdv A outer s H E hr => ?_) law
  have hu := hu64 hr
  have hu1 := hu_of hr
  have nd := sc_same_meet.nd
  exact ⟨_, (ss_cons (ss_expr (mm_pf (pf_fn F_check_teeth (hr.mono (by decide)) (ar_cons (pv' 0) (ar_cons (pv' 1) ar_nil)))))
    (ss_one (ss_ret (mm_pf (pf_op o_fdiv (PF.pp (pf_op o_mul (pv' 0) (pv' 1))) (PF.pp (pf_fn F_shared (hr.mono (by decide)) (ar_cons (pv' 0) (ar_cons (pv' 1) ar_nil)))))))))⟩
abbrev s_all_meet : Stmt := topS 35
abbrev N_all_meet : List Str := ["one", "other"]
theorem sc_all_meet : FnScope N_all_meet ["one", "other"] (defScope s_all_meet) := ⟨rfl, rfl, rfl, by decide +kernel, rfl, by decide +kernel, by decide +kernel⟩
noncomputable def m_all_meet (g_shared : List D → Option D) (g_check_teeth : List D → Option D) : FS := (sSeq (sExpr (mP (eFn 2 g_check_teeth (aCons (eVar 0) (aCons (eVar 1) aNil)))))
  (sRet (mP (e2 cmpEq (eFn 2 g_shared (aCons (eVar 0) (aCons (eVar 1) aNil))) (eC (.int 1))))))
theorem F_all_meet {f : Addr} {fd : FuncData} (F : Fun K "all_meet" "all_meet" s_all_meet f fd) (hb : L2.Binds K fd ["one", "other"] []) (hm : mg "all_meet" = some (.ref f)) {g_shared : List D → Option D} (F_shared : FnD P w K mg base "shared" 1 (spP K 2 g_shared)) {g_check_teeth : List D → Option D} (F_check_teeth : FnD P w K mg base "check_teeth" 3 (spP K 2 g_check_teeth))
    {g : List D → Option D} (law : ∀ ds d, ds.length = 2 → g ds = some d → m_all_meet g_shared g_check_teeth (seP d) (envP ds 0)) : FnD P w K mg base "all_meet" 4 (spP K 2 g) := by
  refine fnP (k := 3) F sc_all_meet hb hm (fun cdv A outer s H E hr => ?_) law
  have hu := hu64 hr
  have hu1 := hu_of hr
  have nd := sc_all_meet.nd
  exact ⟨_, (ss_cons (ss_expr (mm_pf (pf_fn F_check_teeth (hr.mono (by decide)) (ar_cons (pv' 0) (ar_cons (pv' 1) ar_nil)))))
    (ss_one (ss_ret (mm_pf (pf_cmp (o_eq hu) (PF.pp (pf_fn F_shared (hr.mono (by decide)) (ar_cons (pv' 0) (ar_cons (pv' 1) ar_nil)))) (PF.pp pk_int))))))⟩
abbrev s_teeth_met : Stmt := topS 34
abbrev N_teeth_met : List Str := ["one", "other", "tooth", "same", "at"]
theorem sc_teeth_met : FnScope N_teeth_met ["one", "other", "tooth"] (defScope s_teeth_met) := ⟨rfl, rfl, rfl, by decide +kernel, rfl, by decide +kernel, by decide +kernel⟩
noncomputable def m_teeth_met (g_shared : List D → Option D) (g_is_within : List D → Option D) (g_check_teeth : List D → Option D) : FS := (sSeq (sExpr (mP (eFn 2 g_check_teeth (aCons (eVar 0) (aCons (eVar 1) aNil)))))
  (sSeq (sIf (mT (bNot (tst (eFn 3 g_is_within (aCons (eVar 2) (aCons (eC (.int 0)) (aCons (e2 gSub (eVar 0) (eC (.int 1))) aNil))))))) sNever sNext)
  (sSeq (sSet 3 (mP (eFn 2 g_shared (aCons (eVar 0) (aCons (eVar 1) aNil)))))
  (sRet (mP (eCall gTupOf (aCons (eLc [4] (iOf giRg1 (aCons (eVar 1) aNil)) (bName 4) (tst (e2 cmpEq (e2 gMod (e2 gSub (eVar 4) (eVar 2)) (eVar 3)) (eC (.int 0)))) (eFrz (eVar 4))) aNil)))))))
theorem F_teeth_met {f : Addr} {fd : FuncData} (F : Fun K "teeth_met" "teeth_met" s_teeth_met f fd) (hb : L2.Binds K fd ["one", "other", "tooth"] []) (hm : mg "teeth_met" = some (.ref f)) (z_range : mg "range" = none) (z_tuple : mg "tuple" = none) {g_shared : List D → Option D} (F_shared : FnD P w K mg base "shared" 1 (spP K 2 g_shared)) {g_is_within : List D → Option D} (F_is_within : FnD P w K mg base "is_within" 2 (spP K 3 g_is_within)) {g_check_teeth : List D → Option D} (F_check_teeth : FnD P w K mg base "check_teeth" 3 (spP K 2 g_check_teeth))
    {g : List D → Option D} (law : ∀ ds d, ds.length = 3 → g ds = some d → m_teeth_met g_shared g_is_within g_check_teeth (seP d) (envP ds 2)) : FnD P w K mg base "teeth_met" 4 (spP K 3 g) := by
  refine fnP (k := 3) F sc_teeth_met hb hm (fun cdv A outer s H E hr => ?_) law
  have hu := hu64 hr
  have hu1 := hu_of hr
  have nd := sc_teeth_met.nd
  exact ⟨_, (ss_cons (ss_expr (mm_pf (pf_fn F_check_teeth (hr.mono (by decide)) (ar_cons (pv' 0) (ar_cons (pv' 1) ar_nil)))))
    (ss_cons (ss_if (mt_pt (tt_not (tt_val (PF.pp (pf_fn F_is_within (hr.mono (by decide)) (ar_cons (pv' 2) (ar_cons (PF.pp pk_int) (ar_cons (PF.pp (pf_op o_sub (pv' 0) (PF.pp pk_int))) ar_nil)))))))) (ss_one ss_never) ss_nil)
    (ss_cons (ss_set (i := 3) nd (mm_pf (pf_fn F_shared (hr.mono (by decide)) (ar_cons (pv' 0) (ar_cons (pv' 1) ar_nil)))))
    (ss_one (ss_ret (mm_pf (pf_ct c_tuple z_tuple (ar_cons (PF.pp (pf_lc (own := [("at", 4)]) nd (pi_of (it_rg1 z_range) (ar_cons (pv' 1) ar_nil)) (blkOk_by (own := [("at", 4)]) (N := N_teeth_met) (sc := defScope s_teeth_met) (by decide +kernel)) (fun _ _ _ _ _ => (gt_name 4 nd)) (fun _ _ _ _ _ => (ts_one (tt_cmp (o_eq hu) (PF.pp (pf_op o_mod (PF.pp (pf_op o_sub (pv' 4) (pv' 2))) (pv' 3))) (PF.pp pk_int)))) (fun _ _ _ _ _ => (PP.frz (pv' 4))))) ar_nil))))))))⟩
abbrev s_law_are_marks_right : Stmt := topS 60
abbrev N_law_are_marks_right : List Str := ["hand", "belt", "whole", "marks", "told", "found", "moved", "every", "teeth", "beyond", "later", "one", "lot", "rest", "free", "here", "wheel", "other", "both", "meet", "turns"]
theorem sc_law_are_marks_right : FnScope N_law_are_marks_right ["hand", "belt", "whole"] (defScope s_law_are_marks_right) := ⟨rfl, rfl, rfl, by decide +kernel, rfl, by decide +kernel, by decide +kernel⟩
noncomputable def m_law_are_marks_right_0 (g_marks_stand : List D → Option D) (g_slipped : List D → Option D) (g_slips_for : List D → Option D) (g_round_of : List D → Option D) (g_wheel_between : List D → Option D) (g_all_meet : List D → Option D) (g_never_many : List D → Option D) (g_same_meet : List D → Option D) (g_teeth_met : List D → Option D) (g_next_stand : List D → Option D) (g_law_draw : List D → Option (D × D)) (g_is_marks_stand : List D → Option D) (g_marks_after : List D → Option D) : FS := (sSet 3 (mCall gTupOf (maCons (mLc [8] (miSelf (mLend 1)) (bbName 8) mTrue (mIo 2 0 g_law_draw (mhHole (maCons (mLend 8) maNil)))) maNil)))
noncomputable def m_law_are_marks_right_1 (g_marks_stand : List D → Option D) (g_slipped : List D → Option D) (g_slips_for : List D → Option D) (g_round_of : List D → Option D) (g_wheel_between : List D → Option D) (g_all_meet : List D → Option D) (g_never_many : List D → Option D) (g_same_meet : List D → Option D) (g_teeth_met : List D → Option D) (g_next_stand : List D → Option D) (g_law_draw : List D → Option (D × D)) (g_is_marks_stand : List D → Option D) (g_marks_after : List D → Option D) : FS := (sPar 4 5 (mP (eFn 2 g_marks_stand (aCons (eVar 1) (aCons (eVar 3) aNil)))) (mP (eLst aNil)))
noncomputable def m_law_are_marks_right_2 (g_marks_stand : List D → Option D) (g_slipped : List D → Option D) (g_slips_for : List D → Option D) (g_round_of : List D → Option D) (g_wheel_between : List D → Option D) (g_all_meet : List D → Option D) (g_never_many : List D → Option D) (g_same_meet : List D → Option D) (g_teeth_met : List D → Option D) (g_next_stand : List D → Option D) (g_law_draw : List D → Option (D × D)) (g_is_marks_stand : List D → Option D) (g_marks_after : List D → Option D) : FS := (sFor (miOf giRg1 (maCons (mP (eCall gMin (aCons (eVar 2) (aCons (eC (.int 3000)) aNil)))) maNil)) (bbName 6) (sIf (mT (tst (e2 cmpEq (eCall gTupOf (aCons (eLc [8] (iSelf (eVar 1)) (bName 8) bTrue (e2 gMod (eCall gInt (aCons (eVar 6) aNil)) (eVar 8))) aNil)) (eVar 3)))) (sExpr (mApp 5 (mVar 6))) sNext))
noncomputable def m_law_are_marks_right_3 (g_marks_stand : List D → Option D) (g_slipped : List D → Option D) (g_slips_for : List D → Option D) (g_round_of : List D → Option D) (g_wheel_between : List D → Option D) (g_all_meet : List D → Option D) (g_never_many : List D → Option D) (g_same_meet : List D → Option D) (g_teeth_met : List D → Option D) (g_next_stand : List D → Option D) (g_law_draw : List D → Option (D × D)) (g_is_marks_stand : List D → Option D) (g_marks_after : List D → Option D) : FS := (sIf (mT (bAnd (tst (e2 cmpLe (eVar 2) (eC (.int 3000)))) (tst (e2 cmpNe (e2 cmpEq (e2 gIx (eVar 4) (eC (.int 0))) (eC (.str "moved"))) (e2 cmpNe (eVar 5) (eLst aNil)))))) (sRet (mP (eC (.bool false)))) sNext)
noncomputable def m_law_are_marks_right_4 (g_marks_stand : List D → Option D) (g_slipped : List D → Option D) (g_slips_for : List D → Option D) (g_round_of : List D → Option D) (g_wheel_between : List D → Option D) (g_all_meet : List D → Option D) (g_never_many : List D → Option D) (g_same_meet : List D → Option D) (g_teeth_met : List D → Option D) (g_next_stand : List D → Option D) (g_law_draw : List D → Option (D × D)) (g_is_marks_stand : List D → Option D) (g_marks_after : List D → Option D) : FS := (sIf (mT (bOr (bAnd (tst (e2 cmpEq (e2 gIx (eVar 4) (eC (.int 0))) (eC (.str "moved")))) (tst (e2 cmpNe (eFn 2 g_marks_after (aCons (eVar 1) (aCons (e2 gIx (eVar 4) (eC (.int 1))) aNil))) (eVar 3)))) (tst (e2 gIsNot (eFn 3 g_is_marks_stand (aCons (eVar 1) (aCons (eVar 3) (aCons (eVar 4) aNil)))) (eC (.bool true)))))) (sRet (mP (eC (.bool false)))) sNext)
noncomputable def m_law_are_marks_right_5 (g_marks_stand : List D → Option D) (g_slipped : List D → Option D) (g_slips_for : List D → Option D) (g_round_of : List D → Option D) (g_wheel_between : List D → Option D) (g_all_meet : List D → Option D) (g_never_many : List D → Option D) (g_same_meet : List D → Option D) (g_teeth_met : List D → Option D) (g_next_stand : List D → Option D) (g_law_draw : List D → Option (D × D)) (g_is_marks_stand : List D → Option D) (g_marks_after : List D → Option D) : FS := (sSet 7 (mP (eC (.int 1))))
noncomputable def m_law_are_marks_right_6 (g_marks_stand : List D → Option D) (g_slipped : List D → Option D) (g_slips_for : List D → Option D) (g_round_of : List D → Option D) (g_wheel_between : List D → Option D) (g_all_meet : List D → Option D) (g_never_many : List D → Option D) (g_same_meet : List D → Option D) (g_teeth_met : List D → Option D) (g_next_stand : List D → Option D) (g_law_draw : List D → Option (D × D)) (g_is_marks_stand : List D → Option D) (g_marks_after : List D → Option D) : FS := (sFor (miSelf (mLend 1)) (bbName 8) (sSet 7 (mP (e2 gMul (eVar 7) (eVar 8)))))
noncomputable def m_law_are_marks_right_7 (g_marks_stand : List D → Option D) (g_slipped : List D → Option D) (g_slips_for : List D → Option D) (g_round_of : List D → Option D) (g_wheel_between : List D → Option D) (g_all_meet : List D → Option D) (g_never_many : List D → Option D) (g_same_meet : List D → Option D) (g_teeth_met : List D → Option D) (g_next_stand : List D → Option D) (g_law_draw : List D → Option (D × D)) (g_is_marks_stand : List D → Option D) (g_marks_after : List D → Option D) : FS := (sIf (mT (tst (e2 cmpNe (eFn 1 g_never_many (aCons (eVar 1) aNil)) (e2 gSub (eVar 7) (eVar 2))))) (sRet (mP (eC (.bool false)))) sNext)
noncomputable def m_law_are_marks_right_8 (g_marks_stand : List D → Option D) (g_slipped : List D → Option D) (g_slips_for : List D → Option D) (g_round_of : List D → Option D) (g_wheel_between : List D → Option D) (g_all_meet : List D → Option D) (g_never_many : List D → Option D) (g_same_meet : List D → Option D) (g_teeth_met : List D → Option D) (g_next_stand : List D → Option D) (g_law_draw : List D → Option (D × D)) (g_is_marks_stand : List D → Option D) (g_marks_after : List D → Option D) : FS := (sSet 9 (mIo 2 0 g_law_draw (mhHole (maCons (mP (e2 gPow (eC (.int 10)) (eC (.int 6)))) maNil))))
noncomputable def m_law_are_marks_right_9 (g_marks_stand : List D → Option D) (g_slipped : List D → Option D) (g_slips_for : List D → Option D) (g_round_of : List D → Option D) (g_wheel_between : List D → Option D) (g_all_meet : List D → Option D) (g_never_many : List D → Option D) (g_same_meet : List D → Option D) (g_teeth_met : List D → Option D) (g_next_stand : List D → Option D) (g_law_draw : List D → Option (D × D)) (g_is_marks_stand : List D → Option D) (g_marks_after : List D → Option D) : FS := (sSet 10 (mP (eFn 3 g_next_stand (aCons (eVar 1) (aCons (eVar 3) (aCons (eVar 9) aNil))))))
noncomputable def m_law_are_marks_right_10 (g_marks_stand : List D → Option D) (g_slipped : List D → Option D) (g_slips_for : List D → Option D) (g_round_of : List D → Option D) (g_wheel_between : List D → Option D) (g_all_meet : List D → Option D) (g_never_many : List D → Option D) (g_same_meet : List D → Option D) (g_teeth_met : List D → Option D) (g_next_stand : List D → Option D) (g_law_draw : List D → Option (D × D)) (g_is_marks_stand : List D → Option D) (g_marks_after : List D → Option D) : FS := (sIf (mT (tst (e2 cmpNe (e2 gIs (eVar 10) (eC .none)) (e2 cmpEq (e2 gIx (eVar 4) (eC (.int 0))) (eC (.str "never")))))) (sRet (mP (eC (.bool false)))) sNext)
noncomputable def m_law_are_marks_right_11 (g_marks_stand : List D → Option D) (g_slipped : List D → Option D) (g_slips_for : List D → Option D) (g_round_of : List D → Option D) (g_wheel_between : List D → Option D) (g_all_meet : List D → Option D) (g_never_many : List D → Option D) (g_same_meet : List D → Option D) (g_teeth_met : List D → Option D) (g_next_stand : List D → Option D) (g_law_draw : List D → Option (D × D)) (g_is_marks_stand : List D → Option D) (g_marks_after : List D → Option D) : FS := (sIf (mT (bAnd (tst (e2 gIsNot (eVar 10) (eC .none))) (bOr (tst (e2 cmpLe (eVar 10) (eVar 9))) (bOr (tst (e2 cmpGt (e2 gMod (eCall gInt (aCons (e2 gSub (eVar 10) (e2 gIx (eVar 4) (eC (.int 1)))) aNil)) (eVar 2)) (eC (.int 0)))) (tst (e2 cmpGt (e2 gSub (eVar 10) (eVar 9)) (eVar 2))))))) (sRet (mP (eC (.bool false)))) sNext)
noncomputable def m_law_are_marks_right_12 (g_marks_stand : List D → Option D) (g_slipped : List D → Option D) (g_slips_for : List D → Option D) (g_round_of : List D → Option D) (g_wheel_between : List D → Option D) (g_all_meet : List D → Option D) (g_never_many : List D → Option D) (g_same_meet : List D → Option D) (g_teeth_met : List D → Option D) (g_next_stand : List D → Option D) (g_law_draw : List D → Option (D × D)) (g_is_marks_stand : List D → Option D) (g_marks_after : List D → Option D) : FS := (sFor (miOf giRg1 (maCons (mP (eCall gLen (aCons (eVar 1) aNil))) maNil)) (bbName 11) (sFor (miOf giRg1 (maCons (mP (eCall gLen (aCons (eVar 1) aNil))) maNil)) (bbName 17) (sSeq (sSet 18 (mP (eTup (aCons (eFrz (e2 gIx (eVar 1) (eVar 11))) (aCons (eFrz (e2 gIx (eVar 1) (eVar 17))) aNil)))))
  (sSeq (sSet 19 (mP (e2 cmpEq (e2 gIx (eFn 2 g_marks_stand (aCons (eVar 18) (aCons (eTup (aCons (eFrz (e2 gIx (eVar 3) (eVar 11))) (aCons (eFrz (e2 gIx (eVar 3) (eVar 17))) aNil))) aNil))) (eC (.int 0))) (eC (.str "moved")))))
  (sSeq (sIf (mT (tst (e2 cmpNe (eVar 19) (e2 cmpIn (e2 gIx (eVar 3) (eVar 17)) (eFn 3 g_teeth_met (aCons (e2 gIx (eVar 1) (eVar 11)) (aCons (e2 gIx (eVar 1) (eVar 17)) (aCons (e2 gIx (eVar 3) (eVar 11)) aNil)))))))) (sRet (mP (eC (.bool false)))) sNext)
  (sSeq (sIf (mT (tst (e2 cmpNe (eFn 1 g_round_of (aCons (eVar 18) aNil)) (eFn 2 g_same_meet (aCons (e2 gIx (eVar 1) (eVar 11)) (aCons (e2 gIx (eVar 1) (eVar 17)) aNil)))))) (sRet (mP (eC (.bool false)))) sNext)
  (sSeq (sIf (mT (tst (e2 cmpNe (eFn 2 g_all_meet (aCons (e2 gIx (eVar 1) (eVar 11)) (aCons (e2 gIx (eVar 1) (eVar 17)) aNil))) (e2 cmpEq (eFn 1 g_never_many (aCons (eVar 18) aNil)) (eC (.int 0)))))) (sRet (mP (eC (.bool false)))) sNext)
  (sSeq (sSet 20 (mP (eFn 3 g_wheel_between (aCons (eVar 1) (aCons (eVar 11) (aCons (eVar 17) aNil))))))
  (sIf (mT (bOr (tst (e2 cmpNe (e2 gMul (e2 gIx (eVar 20) (eC (.int 0))) (e2 gIx (eVar 1) (eVar 11))) (e2 gMul (e2 gIx (eVar 20) (eC (.int 1))) (e2 gIx (eVar 1) (eVar 17))))) (tst (e2 cmpNe (e2 gMul (e2 gIx (eVar 20) (eC (.int 0))) (e2 gIx (eVar 1) (eVar 11))) (eFn 1 g_round_of (aCons (eVar 18) aNil)))))) (sRet (mP (eC (.bool false)))) sNext)))))))))
noncomputable def m_law_are_marks_right_13 (g_marks_stand : List D → Option D) (g_slipped : List D → Option D) (g_slips_for : List D → Option D) (g_round_of : List D → Option D) (g_wheel_between : List D → Option D) (g_all_meet : List D → Option D) (g_never_many : List D → Option D) (g_same_meet : List D → Option D) (g_teeth_met : List D → Option D) (g_next_stand : List D → Option D) (g_law_draw : List D → Option (D × D)) (g_is_marks_stand : List D → Option D) (g_marks_after : List D → Option D) : FS := (sSet 12 (mP (eFn 2 g_slips_for (aCons (eVar 1) (aCons (eVar 3) aNil)))))
noncomputable def m_law_are_marks_right_14 (g_marks_stand : List D → Option D) (g_slipped : List D → Option D) (g_slips_for : List D → Option D) (g_round_of : List D → Option D) (g_wheel_between : List D → Option D) (g_all_meet : List D → Option D) (g_never_many : List D → Option D) (g_same_meet : List D → Option D) (g_teeth_met : List D → Option D) (g_next_stand : List D → Option D) (g_law_draw : List D → Option (D × D)) (g_is_marks_stand : List D → Option D) (g_marks_after : List D → Option D) : FS := (sIf (mT (tst (e2 cmpNe (e2 cmpEq (eVar 12) (eTup aNil)) (e2 cmpEq (e2 gIx (eVar 4) (eC (.int 0))) (eC (.str "moved")))))) (sRet (mP (eC (.bool false)))) sNext)
noncomputable def m_law_are_marks_right_15 (g_marks_stand : List D → Option D) (g_slipped : List D → Option D) (g_slips_for : List D → Option D) (g_round_of : List D → Option D) (g_wheel_between : List D → Option D) (g_all_meet : List D → Option D) (g_never_many : List D → Option D) (g_same_meet : List D → Option D) (g_teeth_met : List D → Option D) (g_next_stand : List D → Option D) (g_law_draw : List D → Option (D × D)) (g_is_marks_stand : List D → Option D) (g_marks_after : List D → Option D) : FS := (sSet 13 (mP (eLc [16] (iOf giRg1 (aCons (eCall gLen (aCons (eVar 1) aNil)) aNil)) (bName 16) (tst (e2 cmpNin (eVar 16) (eVar 12))) (eFrz (eVar 16)))))
noncomputable def m_law_are_marks_right_16 (g_marks_stand : List D → Option D) (g_slipped : List D → Option D) (g_slips_for : List D → Option D) (g_round_of : List D → Option D) (g_wheel_between : List D → Option D) (g_all_meet : List D → Option D) (g_never_many : List D → Option D) (g_same_meet : List D → Option D) (g_teeth_met : List D → Option D) (g_next_stand : List D → Option D) (g_law_draw : List D → Option (D × D)) (g_is_marks_stand : List D → Option D) (g_marks_after : List D → Option D) : FS := (sIf (mT (tst (e2 cmpEq (eVar 13) (eLst aNil)))) (sRet (mP (e2 cmpEq (eCall gLen (aCons (eVar 1) aNil)) (eCall gLen (aCons (eVar 12) aNil))))) sNext)
noncomputable def m_law_are_marks_right_17 (g_marks_stand : List D → Option D) (g_slipped : List D → Option D) (g_slips_for : List D → Option D) (g_round_of : List D → Option D) (g_wheel_between : List D → Option D) (g_all_meet : List D → Option D) (g_never_many : List D → Option D) (g_same_meet : List D → Option D) (g_teeth_met : List D → Option D) (g_next_stand : List D → Option D) (g_law_draw : List D → Option (D × D)) (g_is_marks_stand : List D → Option D) (g_marks_after : List D → Option D) : FS := (sSet 14 (mP (eFn 2 g_marks_stand (aCons (eCall gTupOf (aCons (eLc [16] (iSelf (eVar 13)) (bName 16) bTrue (eFrz (e2 gIx (eVar 1) (eVar 16)))) aNil)) (aCons (eCall gTupOf (aCons (eLc [16] (iSelf (eVar 13)) (bName 16) bTrue (eFrz (e2 gIx (eVar 3) (eVar 16)))) aNil)) aNil)))))
noncomputable def m_law_are_marks_right_18 (g_marks_stand : List D → Option D) (g_slipped : List D → Option D) (g_slips_for : List D → Option D) (g_round_of : List D → Option D) (g_wheel_between : List D → Option D) (g_all_meet : List D → Option D) (g_never_many : List D → Option D) (g_same_meet : List D → Option D) (g_teeth_met : List D → Option D) (g_next_stand : List D → Option D) (g_law_draw : List D → Option (D × D)) (g_is_marks_stand : List D → Option D) (g_marks_after : List D → Option D) : FS := (sIf (mT (tst (e2 cmpNe (e2 gIx (eVar 14) (eC (.int 0))) (eC (.str "moved"))))) (sRet (mP (eC (.bool false)))) sNext)
noncomputable def m_law_are_marks_right_19 (g_marks_stand : List D → Option D) (g_slipped : List D → Option D) (g_slips_for : List D → Option D) (g_round_of : List D → Option D) (g_wheel_between : List D → Option D) (g_all_meet : List D → Option D) (g_never_many : List D → Option D) (g_same_meet : List D → Option D) (g_teeth_met : List D → Option D) (g_next_stand : List D → Option D) (g_law_draw : List D → Option (D × D)) (g_is_marks_stand : List D → Option D) (g_marks_after : List D → Option D) : FS := (sSet 15 (mVar 3))
noncomputable def m_law_are_marks_right_20 (g_marks_stand : List D → Option D) (g_slipped : List D → Option D) (g_slips_for : List D → Option D) (g_round_of : List D → Option D) (g_wheel_between : List D → Option D) (g_all_meet : List D → Option D) (g_never_many : List D → Option D) (g_same_meet : List D → Option D) (g_teeth_met : List D → Option D) (g_next_stand : List D → Option D) (g_law_draw : List D → Option (D × D)) (g_is_marks_stand : List D → Option D) (g_marks_after : List D → Option D) : FS := (sFor (miSelf (mLend 12)) (bbName 16) (sSet 15 (mP (eFn 4 g_slipped (aCons (eVar 1) (aCons (eVar 15) (aCons (eVar 16) (aCons (e2 gSub (e2 gMod (eCall gInt (aCons (e2 gIx (eVar 14) (eC (.int 1))) aNil)) (e2 gIx (eVar 1) (eVar 16))) (e2 gIx (eVar 15) (eVar 16))) aNil))))))))
noncomputable def m_law_are_marks_right_21 (g_marks_stand : List D → Option D) (g_slipped : List D → Option D) (g_slips_for : List D → Option D) (g_round_of : List D → Option D) (g_wheel_between : List D → Option D) (g_all_meet : List D → Option D) (g_never_many : List D → Option D) (g_same_meet : List D → Option D) (g_teeth_met : List D → Option D) (g_next_stand : List D → Option D) (g_law_draw : List D → Option (D × D)) (g_is_marks_stand : List D → Option D) (g_marks_after : List D → Option D) : FS := (sRet (mP (eAnd (e2 cmpEq (e2 gIx (eFn 2 g_marks_stand (aCons (eVar 1) (aCons (eVar 15) aNil))) (eC (.int 0))) (eC (.str "moved"))) (eCall gAll (aCons (eLc [16] (iSelf (eVar 13)) (bName 16) bTrue (e2 cmpEq (e2 gIx (eVar 15) (eVar 16)) (e2 gIx (eVar 3) (eVar 16)))) aNil)))))
noncomputable def b_law_are_marks_right_21 (g_marks_stand : List D → Option D) (g_slipped : List D → Option D) (g_slips_for : List D → Option D) (g_round_of : List D → Option D) (g_wheel_between : List D → Option D) (g_all_meet : List D → Option D) (g_never_many : List D → Option D) (g_same_meet : List D → Option D) (g_teeth_met : List D → Option D) (g_next_stand : List D → Option D) (g_law_draw : List D → Option (D × D)) (g_is_marks_stand : List D → Option D) (g_marks_after : List D → Option D) : FS := m_law_are_marks_right_21 g_marks_stand g_slipped g_slips_for g_round_of g_wheel_between g_all_meet g_never_many g_same_meet g_teeth_met g_next_stand g_law_draw g_is_marks_stand g_marks_after
noncomputable def b_law_are_marks_right_20 (g_marks_stand : List D → Option D) (g_slipped : List D → Option D) (g_slips_for : List D → Option D) (g_round_of : List D → Option D) (g_wheel_between : List D → Option D) (g_all_meet : List D → Option D) (g_never_many : List D → Option D) (g_same_meet : List D → Option D) (g_teeth_met : List D → Option D) (g_next_stand : List D → Option D) (g_law_draw : List D → Option (D × D)) (g_is_marks_stand : List D → Option D) (g_marks_after : List D → Option D) : FS := sSeq (m_law_are_marks_right_20 g_marks_stand g_slipped g_slips_for g_round_of g_wheel_between g_all_meet g_never_many g_same_meet g_teeth_met g_next_stand g_law_draw g_is_marks_stand g_marks_after) (b_law_are_marks_right_21 g_marks_stand g_slipped g_slips_for g_round_of g_wheel_between g_all_meet g_never_many g_same_meet g_teeth_met g_next_stand g_law_draw g_is_marks_stand g_marks_after)
noncomputable def b_law_are_marks_right_19 (g_marks_stand : List D → Option D) (g_slipped : List D → Option D) (g_slips_for : List D → Option D) (g_round_of : List D → Option D) (g_wheel_between : List D → Option D) (g_all_meet : List D → Option D) (g_never_many : List D → Option D) (g_same_meet : List D → Option D) (g_teeth_met : List D → Option D) (g_next_stand : List D → Option D) (g_law_draw : List D → Option (D × D)) (g_is_marks_stand : List D → Option D) (g_marks_after : List D → Option D) : FS := sSeq (m_law_are_marks_right_19 g_marks_stand g_slipped g_slips_for g_round_of g_wheel_between g_all_meet g_never_many g_same_meet g_teeth_met g_next_stand g_law_draw g_is_marks_stand g_marks_after) (b_law_are_marks_right_20 g_marks_stand g_slipped g_slips_for g_round_of g_wheel_between g_all_meet g_never_many g_same_meet g_teeth_met g_next_stand g_law_draw g_is_marks_stand g_marks_after)
noncomputable def b_law_are_marks_right_18 (g_marks_stand : List D → Option D) (g_slipped : List D → Option D) (g_slips_for : List D → Option D) (g_round_of : List D → Option D) (g_wheel_between : List D → Option D) (g_all_meet : List D → Option D) (g_never_many : List D → Option D) (g_same_meet : List D → Option D) (g_teeth_met : List D → Option D) (g_next_stand : List D → Option D) (g_law_draw : List D → Option (D × D)) (g_is_marks_stand : List D → Option D) (g_marks_after : List D → Option D) : FS := sSeq (m_law_are_marks_right_18 g_marks_stand g_slipped g_slips_for g_round_of g_wheel_between g_all_meet g_never_many g_same_meet g_teeth_met g_next_stand g_law_draw g_is_marks_stand g_marks_after) (b_law_are_marks_right_19 g_marks_stand g_slipped g_slips_for g_round_of g_wheel_between g_all_meet g_never_many g_same_meet g_teeth_met g_next_stand g_law_draw g_is_marks_stand g_marks_after)
noncomputable def b_law_are_marks_right_17 (g_marks_stand : List D → Option D) (g_slipped : List D → Option D) (g_slips_for : List D → Option D) (g_round_of : List D → Option D) (g_wheel_between : List D → Option D) (g_all_meet : List D → Option D) (g_never_many : List D → Option D) (g_same_meet : List D → Option D) (g_teeth_met : List D → Option D) (g_next_stand : List D → Option D) (g_law_draw : List D → Option (D × D)) (g_is_marks_stand : List D → Option D) (g_marks_after : List D → Option D) : FS := sSeq (m_law_are_marks_right_17 g_marks_stand g_slipped g_slips_for g_round_of g_wheel_between g_all_meet g_never_many g_same_meet g_teeth_met g_next_stand g_law_draw g_is_marks_stand g_marks_after) (b_law_are_marks_right_18 g_marks_stand g_slipped g_slips_for g_round_of g_wheel_between g_all_meet g_never_many g_same_meet g_teeth_met g_next_stand g_law_draw g_is_marks_stand g_marks_after)
noncomputable def b_law_are_marks_right_16 (g_marks_stand : List D → Option D) (g_slipped : List D → Option D) (g_slips_for : List D → Option D) (g_round_of : List D → Option D) (g_wheel_between : List D → Option D) (g_all_meet : List D → Option D) (g_never_many : List D → Option D) (g_same_meet : List D → Option D) (g_teeth_met : List D → Option D) (g_next_stand : List D → Option D) (g_law_draw : List D → Option (D × D)) (g_is_marks_stand : List D → Option D) (g_marks_after : List D → Option D) : FS := sSeq (m_law_are_marks_right_16 g_marks_stand g_slipped g_slips_for g_round_of g_wheel_between g_all_meet g_never_many g_same_meet g_teeth_met g_next_stand g_law_draw g_is_marks_stand g_marks_after) (b_law_are_marks_right_17 g_marks_stand g_slipped g_slips_for g_round_of g_wheel_between g_all_meet g_never_many g_same_meet g_teeth_met g_next_stand g_law_draw g_is_marks_stand g_marks_after)
noncomputable def b_law_are_marks_right_15 (g_marks_stand : List D → Option D) (g_slipped : List D → Option D) (g_slips_for : List D → Option D) (g_round_of : List D → Option D) (g_wheel_between : List D → Option D) (g_all_meet : List D → Option D) (g_never_many : List D → Option D) (g_same_meet : List D → Option D) (g_teeth_met : List D → Option D) (g_next_stand : List D → Option D) (g_law_draw : List D → Option (D × D)) (g_is_marks_stand : List D → Option D) (g_marks_after : List D → Option D) : FS := sSeq (m_law_are_marks_right_15 g_marks_stand g_slipped g_slips_for g_round_of g_wheel_between g_all_meet g_never_many g_same_meet g_teeth_met g_next_stand g_law_draw g_is_marks_stand g_marks_after) (b_law_are_marks_right_16 g_marks_stand g_slipped g_slips_for g_round_of g_wheel_between g_all_meet g_never_many g_same_meet g_teeth_met g_next_stand g_law_draw g_is_marks_stand g_marks_after)
noncomputable def b_law_are_marks_right_14 (g_marks_stand : List D → Option D) (g_slipped : List D → Option D) (g_slips_for : List D → Option D) (g_round_of : List D → Option D) (g_wheel_between : List D → Option D) (g_all_meet : List D → Option D) (g_never_many : List D → Option D) (g_same_meet : List D → Option D) (g_teeth_met : List D → Option D) (g_next_stand : List D → Option D) (g_law_draw : List D → Option (D × D)) (g_is_marks_stand : List D → Option D) (g_marks_after : List D → Option D) : FS := sSeq (m_law_are_marks_right_14 g_marks_stand g_slipped g_slips_for g_round_of g_wheel_between g_all_meet g_never_many g_same_meet g_teeth_met g_next_stand g_law_draw g_is_marks_stand g_marks_after) (b_law_are_marks_right_15 g_marks_stand g_slipped g_slips_for g_round_of g_wheel_between g_all_meet g_never_many g_same_meet g_teeth_met g_next_stand g_law_draw g_is_marks_stand g_marks_after)
noncomputable def b_law_are_marks_right_13 (g_marks_stand : List D → Option D) (g_slipped : List D → Option D) (g_slips_for : List D → Option D) (g_round_of : List D → Option D) (g_wheel_between : List D → Option D) (g_all_meet : List D → Option D) (g_never_many : List D → Option D) (g_same_meet : List D → Option D) (g_teeth_met : List D → Option D) (g_next_stand : List D → Option D) (g_law_draw : List D → Option (D × D)) (g_is_marks_stand : List D → Option D) (g_marks_after : List D → Option D) : FS := sSeq (m_law_are_marks_right_13 g_marks_stand g_slipped g_slips_for g_round_of g_wheel_between g_all_meet g_never_many g_same_meet g_teeth_met g_next_stand g_law_draw g_is_marks_stand g_marks_after) (b_law_are_marks_right_14 g_marks_stand g_slipped g_slips_for g_round_of g_wheel_between g_all_meet g_never_many g_same_meet g_teeth_met g_next_stand g_law_draw g_is_marks_stand g_marks_after)
noncomputable def b_law_are_marks_right_12 (g_marks_stand : List D → Option D) (g_slipped : List D → Option D) (g_slips_for : List D → Option D) (g_round_of : List D → Option D) (g_wheel_between : List D → Option D) (g_all_meet : List D → Option D) (g_never_many : List D → Option D) (g_same_meet : List D → Option D) (g_teeth_met : List D → Option D) (g_next_stand : List D → Option D) (g_law_draw : List D → Option (D × D)) (g_is_marks_stand : List D → Option D) (g_marks_after : List D → Option D) : FS := sSeq (m_law_are_marks_right_12 g_marks_stand g_slipped g_slips_for g_round_of g_wheel_between g_all_meet g_never_many g_same_meet g_teeth_met g_next_stand g_law_draw g_is_marks_stand g_marks_after) (b_law_are_marks_right_13 g_marks_stand g_slipped g_slips_for g_round_of g_wheel_between g_all_meet g_never_many g_same_meet g_teeth_met g_next_stand g_law_draw g_is_marks_stand g_marks_after)
noncomputable def b_law_are_marks_right_11 (g_marks_stand : List D → Option D) (g_slipped : List D → Option D) (g_slips_for : List D → Option D) (g_round_of : List D → Option D) (g_wheel_between : List D → Option D) (g_all_meet : List D → Option D) (g_never_many : List D → Option D) (g_same_meet : List D → Option D) (g_teeth_met : List D → Option D) (g_next_stand : List D → Option D) (g_law_draw : List D → Option (D × D)) (g_is_marks_stand : List D → Option D) (g_marks_after : List D → Option D) : FS := sSeq (m_law_are_marks_right_11 g_marks_stand g_slipped g_slips_for g_round_of g_wheel_between g_all_meet g_never_many g_same_meet g_teeth_met g_next_stand g_law_draw g_is_marks_stand g_marks_after) (b_law_are_marks_right_12 g_marks_stand g_slipped g_slips_for g_round_of g_wheel_between g_all_meet g_never_many g_same_meet g_teeth_met g_next_stand g_law_draw g_is_marks_stand g_marks_after)
noncomputable def b_law_are_marks_right_10 (g_marks_stand : List D → Option D) (g_slipped : List D → Option D) (g_slips_for : List D → Option D) (g_round_of : List D → Option D) (g_wheel_between : List D → Option D) (g_all_meet : List D → Option D) (g_never_many : List D → Option D) (g_same_meet : List D → Option D) (g_teeth_met : List D → Option D) (g_next_stand : List D → Option D) (g_law_draw : List D → Option (D × D)) (g_is_marks_stand : List D → Option D) (g_marks_after : List D → Option D) : FS := sSeq (m_law_are_marks_right_10 g_marks_stand g_slipped g_slips_for g_round_of g_wheel_between g_all_meet g_never_many g_same_meet g_teeth_met g_next_stand g_law_draw g_is_marks_stand g_marks_after) (b_law_are_marks_right_11 g_marks_stand g_slipped g_slips_for g_round_of g_wheel_between g_all_meet g_never_many g_same_meet g_teeth_met g_next_stand g_law_draw g_is_marks_stand g_marks_after)
noncomputable def b_law_are_marks_right_9 (g_marks_stand : List D → Option D) (g_slipped : List D → Option D) (g_slips_for : List D → Option D) (g_round_of : List D → Option D) (g_wheel_between : List D → Option D) (g_all_meet : List D → Option D) (g_never_many : List D → Option D) (g_same_meet : List D → Option D) (g_teeth_met : List D → Option D) (g_next_stand : List D → Option D) (g_law_draw : List D → Option (D × D)) (g_is_marks_stand : List D → Option D) (g_marks_after : List D → Option D) : FS := sSeq (m_law_are_marks_right_9 g_marks_stand g_slipped g_slips_for g_round_of g_wheel_between g_all_meet g_never_many g_same_meet g_teeth_met g_next_stand g_law_draw g_is_marks_stand g_marks_after) (b_law_are_marks_right_10 g_marks_stand g_slipped g_slips_for g_round_of g_wheel_between g_all_meet g_never_many g_same_meet g_teeth_met g_next_stand g_law_draw g_is_marks_stand g_marks_after)
noncomputable def b_law_are_marks_right_8 (g_marks_stand : List D → Option D) (g_slipped : List D → Option D) (g_slips_for : List D → Option D) (g_round_of : List D → Option D) (g_wheel_between : List D → Option D) (g_all_meet : List D → Option D) (g_never_many : List D → Option D) (g_same_meet : List D → Option D) (g_teeth_met : List D → Option D) (g_next_stand : List D → Option D) (g_law_draw : List D → Option (D × D)) (g_is_marks_stand : List D → Option D) (g_marks_after : List D → Option D) : FS := sSeq (m_law_are_marks_right_8 g_marks_stand g_slipped g_slips_for g_round_of g_wheel_between g_all_meet g_never_many g_same_meet g_teeth_met g_next_stand g_law_draw g_is_marks_stand g_marks_after) (b_law_are_marks_right_9 g_marks_stand g_slipped g_slips_for g_round_of g_wheel_between g_all_meet g_never_many g_same_meet g_teeth_met g_next_stand g_law_draw g_is_marks_stand g_marks_after)
noncomputable def b_law_are_marks_right_7 (g_marks_stand : List D → Option D) (g_slipped : List D → Option D) (g_slips_for : List D → Option D) (g_round_of : List D → Option D) (g_wheel_between : List D → Option D) (g_all_meet : List D → Option D) (g_never_many : List D → Option D) (g_same_meet : List D → Option D) (g_teeth_met : List D → Option D) (g_next_stand : List D → Option D) (g_law_draw : List D → Option (D × D)) (g_is_marks_stand : List D → Option D) (g_marks_after : List D → Option D) : FS := sSeq (m_law_are_marks_right_7 g_marks_stand g_slipped g_slips_for g_round_of g_wheel_between g_all_meet g_never_many g_same_meet g_teeth_met g_next_stand g_law_draw g_is_marks_stand g_marks_after) (b_law_are_marks_right_8 g_marks_stand g_slipped g_slips_for g_round_of g_wheel_between g_all_meet g_never_many g_same_meet g_teeth_met g_next_stand g_law_draw g_is_marks_stand g_marks_after)
noncomputable def b_law_are_marks_right_6 (g_marks_stand : List D → Option D) (g_slipped : List D → Option D) (g_slips_for : List D → Option D) (g_round_of : List D → Option D) (g_wheel_between : List D → Option D) (g_all_meet : List D → Option D) (g_never_many : List D → Option D) (g_same_meet : List D → Option D) (g_teeth_met : List D → Option D) (g_next_stand : List D → Option D) (g_law_draw : List D → Option (D × D)) (g_is_marks_stand : List D → Option D) (g_marks_after : List D → Option D) : FS := sSeq (m_law_are_marks_right_6 g_marks_stand g_slipped g_slips_for g_round_of g_wheel_between g_all_meet g_never_many g_same_meet g_teeth_met g_next_stand g_law_draw g_is_marks_stand g_marks_after) (b_law_are_marks_right_7 g_marks_stand g_slipped g_slips_for g_round_of g_wheel_between g_all_meet g_never_many g_same_meet g_teeth_met g_next_stand g_law_draw g_is_marks_stand g_marks_after)
noncomputable def b_law_are_marks_right_5 (g_marks_stand : List D → Option D) (g_slipped : List D → Option D) (g_slips_for : List D → Option D) (g_round_of : List D → Option D) (g_wheel_between : List D → Option D) (g_all_meet : List D → Option D) (g_never_many : List D → Option D) (g_same_meet : List D → Option D) (g_teeth_met : List D → Option D) (g_next_stand : List D → Option D) (g_law_draw : List D → Option (D × D)) (g_is_marks_stand : List D → Option D) (g_marks_after : List D → Option D) : FS := sSeq (m_law_are_marks_right_5 g_marks_stand g_slipped g_slips_for g_round_of g_wheel_between g_all_meet g_never_many g_same_meet g_teeth_met g_next_stand g_law_draw g_is_marks_stand g_marks_after) (b_law_are_marks_right_6 g_marks_stand g_slipped g_slips_for g_round_of g_wheel_between g_all_meet g_never_many g_same_meet g_teeth_met g_next_stand g_law_draw g_is_marks_stand g_marks_after)
noncomputable def b_law_are_marks_right_4 (g_marks_stand : List D → Option D) (g_slipped : List D → Option D) (g_slips_for : List D → Option D) (g_round_of : List D → Option D) (g_wheel_between : List D → Option D) (g_all_meet : List D → Option D) (g_never_many : List D → Option D) (g_same_meet : List D → Option D) (g_teeth_met : List D → Option D) (g_next_stand : List D → Option D) (g_law_draw : List D → Option (D × D)) (g_is_marks_stand : List D → Option D) (g_marks_after : List D → Option D) : FS := sSeq (m_law_are_marks_right_4 g_marks_stand g_slipped g_slips_for g_round_of g_wheel_between g_all_meet g_never_many g_same_meet g_teeth_met g_next_stand g_law_draw g_is_marks_stand g_marks_after) (b_law_are_marks_right_5 g_marks_stand g_slipped g_slips_for g_round_of g_wheel_between g_all_meet g_never_many g_same_meet g_teeth_met g_next_stand g_law_draw g_is_marks_stand g_marks_after)
noncomputable def b_law_are_marks_right_3 (g_marks_stand : List D → Option D) (g_slipped : List D → Option D) (g_slips_for : List D → Option D) (g_round_of : List D → Option D) (g_wheel_between : List D → Option D) (g_all_meet : List D → Option D) (g_never_many : List D → Option D) (g_same_meet : List D → Option D) (g_teeth_met : List D → Option D) (g_next_stand : List D → Option D) (g_law_draw : List D → Option (D × D)) (g_is_marks_stand : List D → Option D) (g_marks_after : List D → Option D) : FS := sSeq (m_law_are_marks_right_3 g_marks_stand g_slipped g_slips_for g_round_of g_wheel_between g_all_meet g_never_many g_same_meet g_teeth_met g_next_stand g_law_draw g_is_marks_stand g_marks_after) (b_law_are_marks_right_4 g_marks_stand g_slipped g_slips_for g_round_of g_wheel_between g_all_meet g_never_many g_same_meet g_teeth_met g_next_stand g_law_draw g_is_marks_stand g_marks_after)
noncomputable def b_law_are_marks_right_2 (g_marks_stand : List D → Option D) (g_slipped : List D → Option D) (g_slips_for : List D → Option D) (g_round_of : List D → Option D) (g_wheel_between : List D → Option D) (g_all_meet : List D → Option D) (g_never_many : List D → Option D) (g_same_meet : List D → Option D) (g_teeth_met : List D → Option D) (g_next_stand : List D → Option D) (g_law_draw : List D → Option (D × D)) (g_is_marks_stand : List D → Option D) (g_marks_after : List D → Option D) : FS := sSeq (m_law_are_marks_right_2 g_marks_stand g_slipped g_slips_for g_round_of g_wheel_between g_all_meet g_never_many g_same_meet g_teeth_met g_next_stand g_law_draw g_is_marks_stand g_marks_after) (b_law_are_marks_right_3 g_marks_stand g_slipped g_slips_for g_round_of g_wheel_between g_all_meet g_never_many g_same_meet g_teeth_met g_next_stand g_law_draw g_is_marks_stand g_marks_after)
noncomputable def b_law_are_marks_right_1 (g_marks_stand : List D → Option D) (g_slipped : List D → Option D) (g_slips_for : List D → Option D) (g_round_of : List D → Option D) (g_wheel_between : List D → Option D) (g_all_meet : List D → Option D) (g_never_many : List D → Option D) (g_same_meet : List D → Option D) (g_teeth_met : List D → Option D) (g_next_stand : List D → Option D) (g_law_draw : List D → Option (D × D)) (g_is_marks_stand : List D → Option D) (g_marks_after : List D → Option D) : FS := sSeq (m_law_are_marks_right_1 g_marks_stand g_slipped g_slips_for g_round_of g_wheel_between g_all_meet g_never_many g_same_meet g_teeth_met g_next_stand g_law_draw g_is_marks_stand g_marks_after) (b_law_are_marks_right_2 g_marks_stand g_slipped g_slips_for g_round_of g_wheel_between g_all_meet g_never_many g_same_meet g_teeth_met g_next_stand g_law_draw g_is_marks_stand g_marks_after)
noncomputable def b_law_are_marks_right_0 (g_marks_stand : List D → Option D) (g_slipped : List D → Option D) (g_slips_for : List D → Option D) (g_round_of : List D → Option D) (g_wheel_between : List D → Option D) (g_all_meet : List D → Option D) (g_never_many : List D → Option D) (g_same_meet : List D → Option D) (g_teeth_met : List D → Option D) (g_next_stand : List D → Option D) (g_law_draw : List D → Option (D × D)) (g_is_marks_stand : List D → Option D) (g_marks_after : List D → Option D) : FS := sSeq (m_law_are_marks_right_0 g_marks_stand g_slipped g_slips_for g_round_of g_wheel_between g_all_meet g_never_many g_same_meet g_teeth_met g_next_stand g_law_draw g_is_marks_stand g_marks_after) (b_law_are_marks_right_1 g_marks_stand g_slipped g_slips_for g_round_of g_wheel_between g_all_meet g_never_many g_same_meet g_teeth_met g_next_stand g_law_draw g_is_marks_stand g_marks_after)
noncomputable def m_law_are_marks_right (g_marks_stand : List D → Option D) (g_slipped : List D → Option D) (g_slips_for : List D → Option D) (g_round_of : List D → Option D) (g_wheel_between : List D → Option D) (g_all_meet : List D → Option D) (g_never_many : List D → Option D) (g_same_meet : List D → Option D) (g_teeth_met : List D → Option D) (g_next_stand : List D → Option D) (g_law_draw : List D → Option (D × D)) (g_is_marks_stand : List D → Option D) (g_marks_after : List D → Option D) : FS := (sSeq (sSet 3 (mCall gTupOf (maCons (mLc [8] (miSelf (mLend 1)) (bbName 8) mTrue (mIo 2 0 g_law_draw (mhHole (maCons (mLend 8) maNil)))) maNil)))
  (sSeq (sPar 4 5 (mP (eFn 2 g_marks_stand (aCons (eVar 1) (aCons (eVar 3) aNil)))) (mP (eLst aNil)))
  (sSeq (sFor (miOf giRg1 (maCons (mP (eCall gMin (aCons (eVar 2) (aCons (eC (.int 3000)) aNil)))) maNil)) (bbName 6) (sIf (mT (tst (e2 cmpEq (eCall gTupOf (aCons (eLc [8] (iSelf (eVar 1)) (bName 8) bTrue (e2 gMod (eCall gInt (aCons (eVar 6) aNil)) (eVar 8))) aNil)) (eVar 3)))) (sExpr (mApp 5 (mVar 6))) sNext))
  (sSeq (sIf (mT (bAnd (tst (e2 cmpLe (eVar 2) (eC (.int 3000)))) (tst (e2 cmpNe (e2 cmpEq (e2 gIx (eVar 4) (eC (.int 0))) (eC (.str "moved"))) (e2 cmpNe (eVar 5) (eLst aNil)))))) (sRet (mP (eC (.bool false)))) sNext)
  (sSeq (sIf (mT (bOr (bAnd (tst (e2 cmpEq (e2 gIx (eVar 4) (eC (.int 0))) (eC (.str "moved")))) (tst (e2 cmpNe (eFn 2 g_marks_after (aCons (eVar 1) (aCons (e2 gIx (eVar 4) (eC (.int 1))) aNil))) (eVar 3)))) (tst (e2 gIsNot (eFn 3 g_is_marks_stand (aCons (eVar 1) (aCons (eVar 3) (aCons (eVar 4) aNil)))) (eC (.bool true)))))) (sRet (mP (eC (.bool false)))) sNext)
  (sSeq (sSet 7 (mP (eC (.int 1))))
  (sSeq (sFor (miSelf (mLend 1)) (bbName 8) (sSet 7 (mP (e2 gMul (eVar 7) (eVar 8)))))
  (sSeq (sIf (mT (tst (e2 cmpNe (eFn 1 g_never_many (aCons (eVar 1) aNil)) (e2 gSub (eVar 7) (eVar 2))))) (sRet (mP (eC (.bool false)))) sNext)
  (sSeq (sSet 9 (mIo 2 0 g_law_draw (mhHole (maCons (mP (e2 gPow (eC (.int 10)) (eC (.int 6)))) maNil))))
  (sSeq (sSet 10 (mP (eFn 3 g_next_stand (aCons (eVar 1) (aCons (eVar 3) (aCons (eVar 9) aNil))))))
  (sSeq (sIf (mT (tst (e2 cmpNe (e2 gIs (eVar 10) (eC .none)) (e2 cmpEq (e2 gIx (eVar 4) (eC (.int 0))) (eC (.str "never")))))) (sRet (mP (eC (.bool false)))) sNext)
  (sSeq (sIf (mT (bAnd (tst (e2 gIsNot (eVar 10) (eC .none))) (bOr (tst (e2 cmpLe (eVar 10) (eVar 9))) (bOr (tst (e2 cmpGt (e2 gMod (eCall gInt (aCons (e2 gSub (eVar 10) (e2 gIx (eVar 4) (eC (.int 1)))) aNil)) (eVar 2)) (eC (.int 0)))) (tst (e2 cmpGt (e2 gSub (eVar 10) (eVar 9)) (eVar 2))))))) (sRet (mP (eC (.bool false)))) sNext)
  (sSeq (sFor (miOf giRg1 (maCons (mP (eCall gLen (aCons (eVar 1) aNil))) maNil)) (bbName 11) (sFor (miOf giRg1 (maCons (mP (eCall gLen (aCons (eVar 1) aNil))) maNil)) (bbName 17) (sSeq (sSet 18 (mP (eTup (aCons (eFrz (e2 gIx (eVar 1) (eVar 11))) (aCons (eFrz (e2 gIx (eVar 1) (eVar 17))) aNil)))))
  (sSeq (sSet 19 (mP (e2 cmpEq (e2 gIx (eFn 2 g_marks_stand (aCons (eVar 18) (aCons (eTup (aCons (eFrz (e2 gIx (eVar 3) (eVar 11))) (aCons (eFrz (e2 gIx (eVar 3) (eVar 17))) aNil))) aNil))) (eC (.int 0))) (eC (.str "moved")))))
  (sSeq (sIf (mT (tst (e2 cmpNe (eVar 19) (e2 cmpIn (e2 gIx (eVar 3) (eVar 17)) (eFn 3 g_teeth_met (aCons (e2 gIx (eVar 1) (eVar 11)) (aCons (e2 gIx (eVar 1) (eVar 17)) (aCons (e2 gIx (eVar 3) (eVar 11)) aNil)))))))) (sRet (mP (eC (.bool false)))) sNext)
  (sSeq (sIf (mT (tst (e2 cmpNe (eFn 1 g_round_of (aCons (eVar 18) aNil)) (eFn 2 g_same_meet (aCons (e2 gIx (eVar 1) (eVar 11)) (aCons (e2 gIx (eVar 1) (eVar 17)) aNil)))))) (sRet (mP (eC (.bool false)))) sNext)
  (sSeq (sIf (mT (tst (e2 cmpNe (eFn 2 g_all_meet (aCons (e2 gIx (eVar 1) (eVar 11)) (aCons (e2 gIx (eVar 1) (eVar 17)) aNil))) (e2 cmpEq (eFn 1 g_never_many (aCons (eVar 18) aNil)) (eC (.int 0)))))) (sRet (mP (eC (.bool false)))) sNext)
  (sSeq (sSet 20 (mP (eFn 3 g_wheel_between (aCons (eVar 1) (aCons (eVar 11) (aCons (eVar 17) aNil))))))
  (sIf (mT (bOr (tst (e2 cmpNe (e2 gMul (e2 gIx (eVar 20) (eC (.int 0))) (e2 gIx (eVar 1) (eVar 11))) (e2 gMul (e2 gIx (eVar 20) (eC (.int 1))) (e2 gIx (eVar 1) (eVar 17))))) (tst (e2 cmpNe (e2 gMul (e2 gIx (eVar 20) (eC (.int 0))) (e2 gIx (eVar 1) (eVar 11))) (eFn 1 g_round_of (aCons (eVar 18) aNil)))))) (sRet (mP (eC (.bool false)))) sNext)))))))))
  (sSeq (sSet 12 (mP (eFn 2 g_slips_for (aCons (eVar 1) (aCons (eVar 3) aNil)))))
  (sSeq (sIf (mT (tst (e2 cmpNe (e2 cmpEq (eVar 12) (eTup aNil)) (e2 cmpEq (e2 gIx (eVar 4) (eC (.int 0))) (eC (.str "moved")))))) (sRet (mP (eC (.bool false)))) sNext)
  (sSeq (sSet 13 (mP (eLc [16] (iOf giRg1 (aCons (eCall gLen (aCons (eVar 1) aNil)) aNil)) (bName 16) (tst (e2 cmpNin (eVar 16) (eVar 12))) (eFrz (eVar 16)))))
  (sSeq (sIf (mT (tst (e2 cmpEq (eVar 13) (eLst aNil)))) (sRet (mP (e2 cmpEq (eCall gLen (aCons (eVar 1) aNil)) (eCall gLen (aCons (eVar 12) aNil))))) sNext)
  (sSeq (sSet 14 (mP (eFn 2 g_marks_stand (aCons (eCall gTupOf (aCons (eLc [16] (iSelf (eVar 13)) (bName 16) bTrue (eFrz (e2 gIx (eVar 1) (eVar 16)))) aNil)) (aCons (eCall gTupOf (aCons (eLc [16] (iSelf (eVar 13)) (bName 16) bTrue (eFrz (e2 gIx (eVar 3) (eVar 16)))) aNil)) aNil)))))
  (sSeq (sIf (mT (tst (e2 cmpNe (e2 gIx (eVar 14) (eC (.int 0))) (eC (.str "moved"))))) (sRet (mP (eC (.bool false)))) sNext)
  (sSeq (sSet 15 (mVar 3))
  (sSeq (sFor (miSelf (mLend 12)) (bbName 16) (sSet 15 (mP (eFn 4 g_slipped (aCons (eVar 1) (aCons (eVar 15) (aCons (eVar 16) (aCons (e2 gSub (e2 gMod (eCall gInt (aCons (e2 gIx (eVar 14) (eC (.int 1))) aNil)) (e2 gIx (eVar 1) (eVar 16))) (e2 gIx (eVar 15) (eVar 16))) aNil))))))))
  (sRet (mP (eAnd (e2 cmpEq (e2 gIx (eFn 2 g_marks_stand (aCons (eVar 1) (aCons (eVar 15) aNil))) (eC (.int 0))) (eC (.str "moved"))) (eCall gAll (aCons (eLc [16] (iSelf (eVar 13)) (bName 16) bTrue (e2 cmpEq (e2 gIx (eVar 15) (eVar 16)) (e2 gIx (eVar 3) (eVar 16)))) aNil))))))))))))))))))))))))))
theorem e_law_are_marks_right (g_marks_stand : List D → Option D) (g_slipped : List D → Option D) (g_slips_for : List D → Option D) (g_round_of : List D → Option D) (g_wheel_between : List D → Option D) (g_all_meet : List D → Option D) (g_never_many : List D → Option D) (g_same_meet : List D → Option D) (g_teeth_met : List D → Option D) (g_next_stand : List D → Option D) (g_law_draw : List D → Option (D × D)) (g_is_marks_stand : List D → Option D) (g_marks_after : List D → Option D) : m_law_are_marks_right g_marks_stand g_slipped g_slips_for g_round_of g_wheel_between g_all_meet g_never_many g_same_meet g_teeth_met g_next_stand g_law_draw g_is_marks_stand g_marks_after = b_law_are_marks_right_0 g_marks_stand g_slipped g_slips_for g_round_of g_wheel_between g_all_meet g_never_many g_same_meet g_teeth_met g_next_stand g_law_draw g_is_marks_stand g_marks_after := rfl
theorem F_law_are_marks_right {f : Addr} {fd : FuncData} (F : Fun K "_law_are_marks_right" "_law_are_marks_right" s_law_are_marks_right f fd) (hb : L2.Binds K fd ["hand", "belt", "whole"] []) (hm : mg "_law_are_marks_right" = some (.ref f)) (z_all : mg "all" = none) (z_int : mg "int" = none) (z_tuple : mg "tuple" = none) (z_len : mg "len" = none) (z_range : mg "range" = none) (z_min : mg "min" = none) {g_marks_stand : List D → Option D} (F_marks_stand : FnD P w K mg base "marks_stand" 8 (spP K 2 g_marks_stand)) {g_slipped : List D → Option D} (F_slipped : FnD P w K mg base "slipped" 8 (spP K 4 g_slipped)) {g_slips_for : List D → Option D} (F_slips_for : FnD P w K mg base "slips_for" 8 (spP K 2 g_slips_for)) {g_round_of : List D → Option D} (F_round_of : FnD P w K mg base "round_of" 7 (spP K 1 g_round_of)) {g_wheel_between : List D → Option D} (F_wheel_between : FnD P w K mg base "wheel_between" 7 (spP K 3 g_wheel_between)) {g_all_meet : List D → Option D} (F_all_meet : FnD P w K mg base "all_meet" 4 (spP K 2 g_all_meet)) {g_never_many : List D → Option D} (F_never_many : FnD P w K mg base "never_many" 8 (spP K 1 g_never_many)) {g_same_meet : List D → Option D} (F_same_meet : FnD P w K mg base "same_meet" 4 (spP K 2 g_same_meet)) {g_teeth_met : List D → Option D} (F_teeth_met : FnD P w K mg base "teeth_met" 4 (spP K 3 g_teeth_met)) {g_next_stand : List D → Option D} (F_next_stand : FnD P w K mg base "next_stand" 9 (spP K 3 g_next_stand)) {g_law_draw : List D → Option (D × D)} (F_law_draw : FnD P w K mg base "_law_draw" 1 (spI K 2 0 g_law_draw)) {g_is_marks_stand : List D → Option D} (F_is_marks_stand : FnD P w K mg base "is_marks_stand" 8 (spP K 3 g_is_marks_stand)) {g_marks_after : List D → Option D} (F_marks_after : FnD P w K mg base "marks_after" 7 (spP K 2 g_marks_after))
    {g : List D → Option (D × D)} (law : ∀ dpre d dpost r d', dpre.length = 0 → dpre.length + 1 + dpost.length = 3 → g (dpre ++ d :: dpost) = some (r, d') → m_law_are_marks_right g_marks_stand g_slipped g_slips_for g_round_of g_wheel_between g_all_meet g_never_many g_same_meet g_teeth_met g_next_stand g_law_draw g_is_marks_stand g_marks_after (seI 0 r d') (envI dpre d dpost 18)) : FnD P w K mg base "_law_are_marks_right" 10 (spI K 3 0 g) := by
  refine fnI (k := 9) 0 F sc_law_are_marks_right hb hm (fun cdv A outer s H E hr => ?_) law
  have hu := hu64 hr
  have hu1 := hu_of hr
  have nd := sc_law_are_marks_right.nd
  exact ⟨_, (ss_cons (ss_set (i := 3) nd (mm_ct c_tuple z_tuple (ma_cons (mv_mm (mm_lc (own := [("teeth", 8)]) nd (mi_self (mv_var 1)) (blkOk_by (own := [("teeth", 8)]) (N := N_law_are_marks_right) (sc := defScope s_law_are_marks_right) (by decide +kernel)) (fun _ _ _ _ _ => (bt_name 8 nd)) (fun _ _ _ _ _ => mts_nil) (fun _ _ _ _ _ => (mm_io F_law_draw (hr.mono (by decide)) (mh_hole (i := 0) (ma_cons (mv_var 8) ma_nil)))))) ma_nil)))
    (ss_cons (ss_par (i := 4) (j := 5) nd (mm_pf (pf_fn F_marks_stand (hr.mono (by decide)) (ar_cons (pv' 1) (ar_cons (pv' 3) ar_nil)))) (mm_pf (pf_lst an_nil)))
    (ss_cons (ss_for (mi_of (it_rg1 z_range) (ma_cons (mv_pf (pf_cb (c_min hu) z_min (ar_cons (pv' 2) (ar_cons (PF.pp pk_int) ar_nil)))) ma_nil)) (bg_name 6 nd) (ss_one (ss_if (mt_pt (tt_cmp (o_eq hu) (PF.pp (pf_ct c_tuple z_tuple (ar_cons (PF.pp (pf_lc (own := [("teeth", 8)]) nd (pi_self (pv' 1)) (blkOk_by (own := [("teeth", 8)]) (N := N_law_are_marks_right) (sc := defScope s_law_are_marks_right) (by decide +kernel)) (fun _ _ _ _ _ => (gt_name 8 nd)) (fun _ _ _ _ _ => ts_nil) (fun _ _ _ _ _ => (pf_op o_mod (PF.pp (pf_ct c_int z_int (ar_cons (pv' 6) ar_nil))) (pv' 8))))) ar_nil))) (pv' 3))) (ss_one (ss_expr (mm_app (i := 5) (mm_var 6)))) ss_nil)))
    (ss_cons (ss_if (mt_pt (PWt.pt (tw_and (tt_cmp (o_le hu) (pv' 2) (PF.pp pk_int)) (tw_and1 (tt_cmp (o_ne hu) (PF.pp (pf_cmp (o_eq hu) (pp_ix (pv' 4) (PF.pp pk_int)) (PF.pp pk_str))) (PF.pp (pf_cmp (o_ne hu) (pv' 5) (PF.pp (pf_lst an_nil))))))))) (ss_one (ss_ret (mm_pf pk_bl))) ss_nil)
    (ss_cons (ss_if (mt_pt (PWt.pt (tw_or (PWt.pt (tw_and (tt_cmp (o_eq hu) (pp_ix (pv' 4) (PF.pp pk_int)) (PF.pp pk_str)) (tw_and1 (tt_cmp (o_ne hu) (PF.pp (pf_fn F_marks_after (hr.mono (by decide)) (ar_cons (pv' 1) (ar_cons (pp_ix (pv' 4) (PF.pp pk_int)) ar_nil)))) (pv' 3))))) (tw_or1 (tt_cmp (o_isNot) (PF.pp (pf_fn F_is_marks_stand (hr.mono (by decide)) (ar_cons (pv' 1) (ar_cons (pv' 3) (ar_cons (pv' 4) ar_nil))))) (PF.pp pk_bl)))))) (ss_one (ss_ret (mm_pf pk_bl))) ss_nil)
    (ss_cons (ss_set (i := 7) nd (mm_pf pk_int))
    (ss_cons (ss_for (mi_self (mv_var 1)) (bg_name 8 nd) (ss_one (ss_set (i := 7) nd (mm_pf (pf_op o_mul (pv' 7) (pv' 8))))))
    (ss_cons (ss_if (mt_pt (tt_cmp (o_ne hu) (PF.pp (pf_fn F_never_many (hr.mono (by decide)) (ar_cons (pv' 1) ar_nil))) (PF.pp (pf_op o_sub (pv' 7) (pv' 2))))) (ss_one (ss_ret (mm_pf pk_bl))) ss_nil)
    (ss_cons (ss_set (i := 9) nd (mm_io F_law_draw (hr.mono (by decide)) (mh_hole (i := 0) (ma_cons (mv_pf (pf_op o_pow (PF.pp pk_int) (PF.pp pk_int))) ma_nil))))
    (ss_cons (ss_set (i := 10) nd (mm_pf (pf_fn F_next_stand (hr.mono (by decide)) (ar_cons (pv' 1) (ar_cons (pv' 3) (ar_cons (pv' 9) ar_nil))))))
    (ss_cons (ss_if (mt_pt (tt_cmp (o_ne hu) (PF.pp (pf_cmp (o_is) (pv' 10) (PF.pp pk_non))) (PF.pp (pf_cmp (o_eq hu) (pp_ix (pv' 4) (PF.pp pk_int)) (PF.pp pk_str))))) (ss_one (ss_ret (mm_pf pk_bl))) ss_nil)
    (ss_cons (ss_if (mt_pt (PWt.pt (tw_and (tt_cmp (o_isNot) (pv' 10) (PF.pp pk_non)) (tw_and1 (PWt.pt (tw_or (tt_cmp (o_le hu) (pv' 10) (pv' 9)) (tw_or (tt_cmp (o_gt hu) (PF.pp (pf_op o_mod (PF.pp (pf_ct c_int z_int (ar_cons (PF.pp (pf_op o_sub (pv' 10) (pp_ix (pv' 4) (PF.pp pk_int)))) ar_nil))) (pv' 2))) (PF.pp pk_int)) (tw_or1 (tt_cmp (o_gt hu) (PF.pp (pf_op o_sub (pv' 10) (pv' 9))) (pv' 2)))))))))) (ss_one (ss_ret (mm_pf pk_bl))) ss_nil)
    (ss_cons (ss_for (mi_of (it_rg1 z_range) (ma_cons (mv_pf (pf_cb (c_len) z_len (ar_cons (pv' 1) ar_nil))) ma_nil)) (bg_name 11 nd) (ss_one (ss_for (mi_of (it_rg1 z_range) (ma_cons (mv_pf (pf_cb (c_len) z_len (ar_cons (pv' 1) ar_nil))) ma_nil)) (bg_name 17 nd) (ss_cons (ss_set (i := 18) nd (mm_pf (pf_tup (an_cons (PP.frz (pp_ix (pv' 1) (pv' 11))) (an_cons (PP.frz (pp_ix (pv' 1) (pv' 17))) an_nil)))))
    (ss_cons (ss_set (i := 19) nd (mm_pf (pf_cmp (o_eq hu) (pp_ix (PF.pp (pf_fn F_marks_stand (hr.mono (by decide)) (ar_cons (pv' 18) (ar_cons (PF.pp (pf_tup (an_cons (PP.frz (pp_ix (pv' 3) (pv' 11))) (an_cons (PP.frz (pp_ix (pv' 3) (pv' 17))) an_nil)))) ar_nil)))) (PF.pp pk_int)) (PF.pp pk_str))))
    (ss_cons (ss_if (mt_pt (tt_cmp (o_ne hu) (pv' 19) (PF.pp (pf_cmp (o_in hu) (pp_ix (pv' 3) (pv' 17)) (PF.pp (pf_fn F_teeth_met (hr.mono (by decide)) (ar_cons (pp_ix (pv' 1) (pv' 11)) (ar_cons (pp_ix (pv' 1) (pv' 17)) (ar_cons (pp_ix (pv' 3) (pv' 11)) ar_nil))))))))) (ss_one (ss_ret (mm_pf pk_bl))) ss_nil)
    (ss_cons (ss_if (mt_pt (tt_cmp (o_ne hu) (PF.pp (pf_fn F_round_of (hr.mono (by decide)) (ar_cons (pv' 18) ar_nil))) (PF.pp (pf_fn F_same_meet (hr.mono (by decide)) (ar_cons (pp_ix (pv' 1) (pv' 11)) (ar_cons (pp_ix (pv' 1) (pv' 17)) ar_nil)))))) (ss_one (ss_ret (mm_pf pk_bl))) ss_nil)
    (ss_cons (ss_if (mt_pt (tt_cmp (o_ne hu) (PF.pp (pf_fn F_all_meet (hr.mono (by decide)) (ar_cons (pp_ix (pv' 1) (pv' 11)) (ar_cons (pp_ix (pv' 1) (pv' 17)) ar_nil)))) (PF.pp (pf_cmp (o_eq hu) (PF.pp (pf_fn F_never_many (hr.mono (by decide)) (ar_cons (pv' 18) ar_nil))) (PF.pp pk_int))))) (ss_one (ss_ret (mm_pf pk_bl))) ss_nil)
    (ss_cons (ss_set (i := 20) nd (mm_pf (pf_fn F_wheel_between (hr.mono (by decide)) (ar_cons (pv' 1) (ar_cons (pv' 11) (ar_cons (pv' 17) ar_nil))))))
    (ss_one (ss_if (mt_pt (PWt.pt (tw_or (tt_cmp (o_ne hu) (PF.pp (pf_op o_mul (pp_ix (pv' 20) (PF.pp pk_int)) (pp_ix (pv' 1) (pv' 11)))) (PF.pp (pf_op o_mul (pp_ix (pv' 20) (PF.pp pk_int)) (pp_ix (pv' 1) (pv' 17))))) (tw_or1 (tt_cmp (o_ne hu) (PF.pp (pf_op o_mul (pp_ix (pv' 20) (PF.pp pk_int)) (pp_ix (pv' 1) (pv' 11)))) (PF.pp (pf_fn F_round_of (hr.mono (by decide)) (ar_cons (pv' 18) ar_nil)))))))) (ss_one (ss_ret (mm_pf pk_bl))) ss_nil)))))))))))
    (ss_cons (ss_set (i := 12) nd (mm_pf (pf_fn F_slips_for (hr.mono (by decide)) (ar_cons (pv' 1) (ar_cons (pv' 3) ar_nil)))))
    (ss_cons (ss_if (mt_pt (tt_cmp (o_ne hu) (PF.pp (pf_cmp (o_eq hu) (pv' 12) (PF.pp (pf_tup an_nil)))) (PF.pp (pf_cmp (o_eq hu) (pp_ix (pv' 4) (PF.pp pk_int)) (PF.pp pk_str))))) (ss_one (ss_ret (mm_pf pk_bl))) ss_nil)
    (ss_cons (ss_setLc (i := 13) (own := [("wheel", 16)]) nd (pi_of (it_rg1 z_range) (ar_cons (PF.pp (pf_cb (c_len) z_len (ar_cons (pv' 1) ar_nil))) ar_nil)) (blkOk_by (own := [("wheel", 16)]) (N := N_law_are_marks_right) (sc := defScope s_law_are_marks_right) (by decide +kernel)) (fun _ _ _ _ _ => (gt_name 16 nd)) (fun _ _ _ _ _ => (ts_one (tt_cmp (o_nin hu) (pv' 16) (pv' 12)))) (fun _ _ _ _ _ => (PP.frz (pv' 16))) (sw_true rfl rfl rfl (by decide +kernel)))
    (ss_cons (ss_if (mt_pt (tt_cmp (o_eq hu) (pv' 13) (PF.pp (pf_lst an_nil)))) (ss_one (ss_ret (mm_pf (pf_cmp (o_eq hu) (PF.pp (pf_cb (c_len) z_len (ar_cons (pv' 1) ar_nil))) (PF.pp (pf_cb (c_len) z_len (ar_cons (pv' 12) ar_nil))))))) ss_nil)
    (ss_cons (ss_set (i := 14) nd (mm_pf (pf_fn F_marks_stand (hr.mono (by decide)) (ar_cons (PF.pp (pf_ct c_tuple z_tuple (ar_cons (PF.pp (pf_lc (own := [("wheel", 16)]) nd (pi_self (pv' 13)) (blkOk_by (own := [("wheel", 16)]) (N := N_law_are_marks_right) (sc := defScope s_law_are_marks_right) (by decide +kernel)) (fun _ _ _ _ _ => (gt_name 16 nd)) (fun _ _ _ _ _ => ts_nil) (fun _ _ _ _ _ => (PP.frz (pp_ix (pv' 1) (pv' 16)))))) ar_nil))) (ar_cons (PF.pp (pf_ct c_tuple z_tuple (ar_cons (PF.pp (pf_lc (own := [("wheel", 16)]) nd (pi_self (pv' 13)) (blkOk_by (own := [("wheel", 16)]) (N := N_law_are_marks_right) (sc := defScope s_law_are_marks_right) (by decide +kernel)) (fun _ _ _ _ _ => (gt_name 16 nd)) (fun _ _ _ _ _ => ts_nil) (fun _ _ _ _ _ => (PP.frz (pp_ix (pv' 3) (pv' 16)))))) ar_nil))) ar_nil)))))
    (ss_cons (ss_if (mt_pt (tt_cmp (o_ne hu) (pp_ix (pv' 14) (PF.pp pk_int)) (PF.pp pk_str))) (ss_one (ss_ret (mm_pf pk_bl))) ss_nil)
    (ss_cons (ss_set (i := 15) nd (mm_var 3))
    (ss_cons (ss_for (mi_self (mv_var 12)) (bg_name 16 nd) (ss_one (ss_set (i := 15) nd (mm_pf (pf_fn F_slipped (hr.mono (by decide)) (ar_cons (pv' 1) (ar_cons (pv' 15) (ar_cons (pv' 16) (ar_cons (PF.pp (pf_op o_sub (PF.pp (pf_op o_mod (PF.pp (pf_ct c_int z_int (ar_cons (pp_ix (pv' 14) (PF.pp pk_int)) ar_nil))) (pp_ix (pv' 1) (pv' 16)))) (pp_ix (pv' 15) (pv' 16)))) ar_nil)))))))))
    (ss_one (ss_ret (mm_pf (pf_and (PF.pp (pf_cmp (o_eq hu) (pp_ix (PF.pp (pf_fn F_marks_stand (hr.mono (by decide)) (ar_cons (pv' 1) (ar_cons (pv' 15) ar_nil)))) (PF.pp pk_int)) (PF.pp pk_str))) (pf_one (pf_cb (c_all) z_all (ar_cons (PF.pp (pf_lc (own := [("wheel", 16)]) nd (pi_self (pv' 13)) (blkOk_by (own := [("wheel", 16)]) (N := N_law_are_marks_right) (sc := defScope s_law_are_marks_right) (by decide +kernel)) (fun _ _ _ _ _ => (gt_name 16 nd)) (fun _ _ _ _ _ => ts_nil) (fun _ _ _ _ _ => (pf_cmp (o_eq hu) (pp_ix (pv' 15) (pv' 16)) (pp_ix (pv' 3) (pv' 16)))))) ar_nil))))))))))))))))))))))))))))⟩
abbrev s_all_due : Stmt := topS 45
abbrev N_all_due : List Str := ["service", "found", "pair"]
theorem sc_all_due : FnScope N_all_due ["service"] (defScope s_all_due) := ⟨rfl, rfl, rfl, by decide +kernel, rfl, by decide +kernel, by decide +kernel⟩
noncomputable def m_all_due (g_shared : List D → Option D) (g_check_service : List D → Option D) : FS := (sSeq (sExpr (mP (eFn 2 g_check_service (aCons (eVar 0) (aCons (eC (.int 0)) aNil)))))
  (sSeq (sSet 1 (mP (eC (.int 1))))
  (sSeq (sFor (miSelf (mLend 0)) (bbName 2) (sSet 1 (mP (e2 gFdiv (e2 gMul (eVar 1) (e2 gIx (eVar 2) (eC (.int 0)))) (eFn 2 g_shared (aCons (eVar 1) (aCons (e2 gIx (eVar 2) (eC (.int 0))) aNil)))))))
  (sRet (mVar 1)))))
theorem F_all_due {f : Addr} {fd : FuncData} (F : Fun K "all_due" "all_due" s_all_due f fd) (hb : L2.Binds K fd ["service"] []) (hm : mg "all_due" = some (.ref f)) {g_shared : List D → Option D} (F_shared : FnD P w K mg base "shared" 1 (spP K 2 g_shared)) {g_check_service : List D → Option D} (F_check_service : FnD P w K mg base "check_service" 4 (spP K 2 g_check_service))
    {g : List D → Option D} (law : ∀ ds d, ds.length = 1 → g ds = some d → m_all_due g_shared g_check_service (seP d) (envP ds 2)) : FnD P w K mg base "all_due" 5 (spP K 1 g) := by
  refine fnP (k := 4) F sc_all_due hb hm (fun cdv A outer s H E hr => ?_) law
  have hu := hu64 hr
  have hu1 := hu_of hr
  have nd := sc_all_due.nd
  exact ⟨_, (ss_cons (ss_expr (mm_pf (pf_fn F_check_service (hr.mono (by decide)) (ar_cons (pv' 0) (ar_cons (PF.pp pk_int) ar_nil)))))
    (ss_cons (ss_set (i := 1) nd (mm_pf pk_int))
    (ss_cons (ss_for (mi_self (mv_var 0)) (bg_name 2 nd) (ss_one (ss_set (i := 1) nd (mm_pf (pf_op o_fdiv (PF.pp (pf_op o_mul (pv' 1) (pp_ix (pv' 2) (PF.pp pk_int)))) (PF.pp (pf_fn F_shared (hr.mono (by decide)) (ar_cons (pv' 1) (ar_cons (pp_ix (pv' 2) (PF.pp pk_int)) ar_nil)))))))))
    (ss_one (ss_ret (mm_var 1))))))⟩
abbrev s_stand_many : Stmt := topS 23
abbrev N_stand_many : List Str := ["belt", "moved"]
theorem sc_stand_many : FnScope N_stand_many ["belt", "moved"] (defScope s_stand_many) := ⟨rfl, rfl, rfl, by decide +kernel, rfl, by decide +kernel, by decide +kernel⟩
noncomputable def m_stand_many (g_round_of : List D → Option D) (g_check_moved : List D → Option D) : FS := (sSeq (sExpr (mP (eFn 1 g_check_moved (aCons (eVar 1) aNil))))
  (sRet (mP (e2 gFdiv (eVar 1) (eFn 1 g_round_of (aCons (eVar 0) aNil))))))
theorem F_stand_many {f : Addr} {fd : FuncData} (F : Fun K "stand_many" "stand_many" s_stand_many f fd) (hb : L2.Binds K fd ["belt", "moved"] []) (hm : mg "stand_many" = some (.ref f)) {g_round_of : List D → Option D} (F_round_of : FnD P w K mg base "round_of" 7 (spP K 1 g_round_of)) {g_check_moved : List D → Option D} (F_check_moved : FnD P w K mg base "check_moved" 3 (spP K 1 g_check_moved))
    {g : List D → Option D} (law : ∀ ds d, ds.length = 2 → g ds = some d → m_stand_many g_round_of g_check_moved (seP d) (envP ds 0)) : FnD P w K mg base "stand_many" 8 (spP K 2 g) := by
  refine fnP (k := 7) F sc_stand_many hb hm (fun cdv A outer s H E hr => ?_) law
  have hu := hu64 hr
  have hu1 := hu_of hr
  have nd := sc_stand_many.nd
  exact ⟨_, (ss_cons (ss_expr (mm_pf (pf_fn F_check_moved (hr.mono (by decide)) (ar_cons (pv' 1) ar_nil))))
    (ss_one (ss_ret (mm_pf (pf_op o_fdiv (pv' 1) (PF.pp (pf_fn F_round_of (hr.mono (by decide)) (ar_cons (pv' 0) ar_nil))))))))⟩
abbrev s_visits_many : Stmt := topS 43
abbrev N_visits_many : List Str := ["service", "days"]
theorem sc_visits_many : FnScope N_visits_many ["service", "days"] (defScope s_visits_many) := ⟨rfl, rfl, rfl, by decide +kernel, rfl, by decide +kernel, by decide +kernel⟩
noncomputable def m_visits_many (g_joined_visits : List D → Option D) : FS := (sRet (mP (eCall gLen (aCons (eFn 2 g_joined_visits (aCons (eVar 0) (aCons (eVar 1) aNil))) aNil))))
theorem F_visits_many {f : Addr} {fd : FuncData} (F : Fun K "visits_many" "visits_many" s_visits_many f fd) (hb : L2.Binds K fd ["service", "days"] []) (hm : mg "visits_many" = some (.ref f)) (z_len : mg "len" = none) {g_joined_visits : List D → Option D} (F_joined_visits : FnD P w K mg base "joined_visits" 5 (spP K 2 g_joined_visits))
    {g : List D → Option D} (law : ∀ ds d, ds.length = 2 → g ds = some d → m_visits_many g_joined_visits (seP d) (envP ds 0)) : FnD P w K mg base "visits_many" 6 (spP K 2 g) := by
  refine fnP (k := 5) F sc_visits_many hb hm (fun cdv A outer s H E hr => ?_) law
  have hu := hu64 hr
  have hu1 := hu_of hr
  have nd := sc_visits_many.nd
  exact ⟨_, (ss_one (ss_ret (mm_pf (pf_cb (c_len) z_len (ar_cons (PF.pp (pf_fn F_joined_visits (hr.mono (by decide)) (ar_cons (pv' 0) (ar_cons (pv' 1) ar_nil)))) ar_nil)))))⟩
abbrev s_saved_visits : Stmt := topS 50
abbrev N_saved_visits : List Str := ["service", "days"]
theorem sc_saved_visits : FnScope N_saved_visits ["service", "days"] (defScope s_saved_visits) := ⟨rfl, rfl, rfl, by decide +kernel, rfl, by decide +kernel, by decide +kernel⟩
noncomputable def m_saved_visits (g_plain_visits : List D → Option D) (g_visits_many : List D → Option D) : FS := (sRet (mP (e2 gSub (eCall gLen (aCons (eFn 2 g_plain_visits (aCons (eVar 0) (aCons (eVar 1) aNil))) aNil)) (eFn 2 g_visits_many (aCons (eVar 0) (aCons (eVar 1) aNil))))))
theorem F_saved_visits {f : Addr} {fd : FuncData} (F : Fun K "saved_visits" "saved_visits" s_saved_visits f fd) (hb : L2.Binds K fd ["service", "days"] []) (hm : mg "saved_visits" = some (.ref f)) (z_len : mg "len" = none) {g_plain_visits : List D → Option D} (F_plain_visits : FnD P w K mg base "plain_visits" 6 (spP K 2 g_plain_visits)) {g_visits_many : List D → Option D} (F_visits_many : FnD P w K mg base "visits_many" 6 (spP K 2 g_visits_many))
    {g : List D → Option D} (law : ∀ ds d, ds.length = 2 → g ds = some d → m_saved_visits g_plain_visits g_visits_many (seP d) (envP ds 0)) : FnD P w K mg base "saved_visits" 7 (spP K 2 g) := by
  refine fnP (k := 6) F sc_saved_visits hb hm (fun cdv A outer s H E hr => ?_) law
  have hu := hu64 hr
  have hu1 := hu_of hr
  have nd := sc_saved_visits.nd
  exact ⟨_, (ss_one (ss_ret (mm_pf (pf_op o_sub (PF.pp (pf_cb (c_len) z_len (ar_cons (PF.pp (pf_fn F_plain_visits (hr.mono (by decide)) (ar_cons (pv' 0) (ar_cons (pv' 1) ar_nil)))) ar_nil))) (PF.pp (pf_fn F_visits_many (hr.mono (by decide)) (ar_cons (pv' 0) (ar_cons (pv' 1) ar_nil))))))))⟩
abbrev s_turns_after : Stmt := topS 19
abbrev N_turns_after : List Str := ["belt", "moved", "teeth"]
theorem sc_turns_after : FnScope N_turns_after ["belt", "moved"] (defScope s_turns_after) := ⟨rfl, rfl, rfl, by decide +kernel, rfl, by decide +kernel, by decide +kernel⟩
noncomputable def m_turns_after (g_check_moved : List D → Option D) (g_check_belt : List D → Option D) : FS := (sSeq (sExpr (mP (eFn 1 g_check_belt (aCons (eVar 0) aNil))))
  (sSeq (sExpr (mP (eFn 1 g_check_moved (aCons (eVar 1) aNil))))
  (sRet (mP (eCall gTupOf (aCons (eLc [2] (iSelf (eVar 0)) (bName 2) bTrue (eTup (aCons (e2 gFdiv (eVar 1) (eVar 2)) (aCons (e2 gMod (eVar 1) (eVar 2)) aNil)))) aNil))))))
theorem F_turns_after {f : Addr} {fd : FuncData} (F : Fun K "turns_after" "turns_after" s_turns_after f fd) (hb : L2.Binds K fd ["belt", "moved"] []) (hm : mg "turns_after" = some (.ref f)) (z_tuple : mg "tuple" = none) {g_check_moved : List D → Option D} (F_check_moved : FnD P w K mg base "check_moved" 3 (spP K 1 g_check_moved)) {g_check_belt : List D → Option D} (F_check_belt : FnD P w K mg base "check_belt" 6 (spP K 1 g_check_belt))
    {g : List D → Option D} (law : ∀ ds d, ds.length = 2 → g ds = some d → m_turns_after g_check_moved g_check_belt (seP d) (envP ds 1)) : FnD P w K mg base "turns_after" 7 (spP K 2 g) := by
  refine fnP (k := 6) F sc_turns_after hb hm (fun cdv A outer s H E hr => ?_) law
  have hu := hu64 hr
  have hu1 := hu_of hr
  have nd := sc_turns_after.nd
  exact ⟨_, (ss_cons (ss_expr (mm_pf (pf_fn F_check_belt (hr.mono (by decide)) (ar_cons (pv' 0) ar_nil))))
    (ss_cons (ss_expr (mm_pf (pf_fn F_check_moved (hr.mono (by decide)) (ar_cons (pv' 1) ar_nil))))
    (ss_one (ss_ret (mm_pf (pf_ct c_tuple z_tuple (ar_cons (PF.pp (pf_lc (own := [("teeth", 2)]) nd (pi_self (pv' 0)) (blkOk_by (own := [("teeth", 2)]) (N := N_turns_after) (sc := defScope s_turns_after) (by decide +kernel)) (fun _ _ _ _ _ => (gt_name 2 nd)) (fun _ _ _ _ _ => ts_nil) (fun _ _ _ _ _ => (pf_tup (an_cons (pf_op o_fdiv (pv' 1) (pv' 2)) (an_cons (pf_op o_mod (pv' 1) (pv' 2)) an_nil)))))) ar_nil)))))))⟩
abbrev s_law_any : Stmt := topS 54
abbrev N_law_any : List Str := ["hand", "some"]
theorem sc_law_any : FnScope N_law_any ["hand", "some"] (defScope s_law_any) := ⟨rfl, rfl, rfl, by decide +kernel, rfl, by decide +kernel, by decide +kernel⟩
noncomputable def m_law_any (g_law_draw : List D → Option (D × D)) : FS := (sRet (m2 (gFrz gIx) (mLend 1) (mIo 2 0 g_law_draw (mhHole (maCons (mP (eCall gLen (aCons (eVar 1) aNil))) maNil)))))
theorem F_law_any {f : Addr} {fd : FuncData} (F : Fun K "_law_any" "_law_any" s_law_any f fd) (hb : L2.Binds K fd ["hand", "some"] []) (hm : mg "_law_any" = some (.ref f)) (z_len : mg "len" = none) {g_law_draw : List D → Option (D × D)} (F_law_draw : FnD P w K mg base "_law_draw" 1 (spI K 2 0 g_law_draw))
    {g : List D → Option (D × D)} (law : ∀ dpre d dpost r d', dpre.length = 0 → dpre.length + 1 + dpost.length = 2 → g (dpre ++ d :: dpost) = some (r, d') → m_law_any g_law_draw (seI 0 r d') (envI dpre d dpost 0)) : FnD P w K mg base "_law_any" 2 (spI K 2 0 g) := by
  refine fnI (k := 1) 0 F sc_law_any hb hm (fun cdv A outer s H E hr => ?_) law
  have hu := hu64 hr
  have hu1 := hu_of hr
  have nd := sc_law_any.nd
  exact ⟨_, (ss_one (ss_ret (mm_ix (mv_var 1) (mv_mm (mm_io F_law_draw (hr.mono (by decide)) (mh_hole (i := 0) (ma_cons (mv_pf (pf_cb (c_len) z_len (ar_cons (pv' 1) ar_nil))) ma_nil)))))))⟩
abbrev s_law_right : Stmt := topS 59
abbrev N_law_right : List Str := ["hand", "belt", "service", "days", "whole", "rows", "due", "day", "later", "some", "far", "teeth", "gone", "wheel", "row", "at", "mark", "one", "turns", "rest", "visit"]
theorem sc_law_right : FnScope N_law_right ["hand"] (defScope s_law_right) := ⟨rfl, rfl, rfl, by decide +kernel, rfl, by decide +kernel, by decide +kernel⟩
noncomputable def m_law_right_0 (g_law_are_marks_right : List D → Option (D × D)) (g_saved_visits : List D → Option D) (g_sooner_of : List D → Option D) (g_law_draw : List D → Option (D × D)) (g_joined_visits : List D → Option D) (g_plain_visits : List D → Option D) (g_done_many : List D → Option D) (g_turns_after : List D → Option D) (g_plain_days : List D → Option D) (g_marks_after : List D → Option D) (g_next_due : List D → Option D) (g_due_on : List D → Option D) (g_plain_many : List D → Option D) (g_marks_all : List D → Option D) (g_stand_many : List D → Option D) (g_all_due : List D → Option D) (g_round_of : List D → Option D) (g_law_any : List D → Option (D × D)) : FS := (sSet 1 (mCall gTupOf (maCons (mLc [13] (miOf giRg1 (maCons (m2 gAdd (mP (eC (.int 1))) (mIo 2 0 g_law_draw (mhHole (maCons (mP (eC (.int 4))) maNil)))) maNil)) (bbName 13) mTrue (m2 gAdd (mP (eC (.int 2))) (mIo 2 0 g_law_draw (mhHole (maCons (mIo 2 0 g_law_any (mhHole (maCons (mP (eLst (aCons (eC (.int 5)) (aCons (eC (.int 12)) aNil)))) maNil))) maNil))))) maNil)))
noncomputable def m_law_right_1 (g_law_are_marks_right : List D → Option (D × D)) (g_saved_visits : List D → Option D) (g_sooner_of : List D → Option D) (g_law_draw : List D → Option (D × D)) (g_joined_visits : List D → Option D) (g_plain_visits : List D → Option D) (g_done_many : List D → Option D) (g_turns_after : List D → Option D) (g_plain_days : List D → Option D) (g_marks_after : List D → Option D) (g_next_due : List D → Option D) (g_due_on : List D → Option D) (g_plain_many : List D → Option D) (g_marks_all : List D → Option D) (g_stand_many : List D → Option D) (g_all_due : List D → Option D) (g_round_of : List D → Option D) (g_law_any : List D → Option (D × D)) : FS := (sPar 2 3 (mP (eCall gTupOf (aCons (eLc [11] (iSelf (eVar 1)) (bName 11) bTrue (eTup (aCons (eFrz (eVar 11)) (aCons (eC (.int 0)) aNil)))) aNil))) (mIo 2 0 g_law_draw (mhHole (maCons (mP (eC (.int 200))) maNil))))
noncomputable def m_law_right_2 (g_law_are_marks_right : List D → Option (D × D)) (g_saved_visits : List D → Option D) (g_sooner_of : List D → Option D) (g_law_draw : List D → Option (D × D)) (g_joined_visits : List D → Option D) (g_plain_visits : List D → Option D) (g_done_many : List D → Option D) (g_turns_after : List D → Option D) (g_plain_days : List D → Option D) (g_marks_after : List D → Option D) (g_next_due : List D → Option D) (g_due_on : List D → Option D) (g_plain_many : List D → Option D) (g_marks_all : List D → Option D) (g_stand_many : List D → Option D) (g_all_due : List D → Option D) (g_round_of : List D → Option D) (g_law_any : List D → Option (D × D)) : FS := (sSet 4 (mP (eFn 1 g_round_of (aCons (eVar 1) aNil))))
noncomputable def m_law_right_3 (g_law_are_marks_right : List D → Option (D × D)) (g_saved_visits : List D → Option D) (g_sooner_of : List D → Option D) (g_law_draw : List D → Option (D × D)) (g_joined_visits : List D → Option D) (g_plain_visits : List D → Option D) (g_done_many : List D → Option D) (g_turns_after : List D → Option D) (g_plain_days : List D → Option D) (g_marks_after : List D → Option D) (g_next_due : List D → Option D) (g_due_on : List D → Option D) (g_plain_many : List D → Option D) (g_marks_all : List D → Option D) (g_stand_many : List D → Option D) (g_all_due : List D → Option D) (g_round_of : List D → Option D) (g_law_any : List D → Option (D × D)) : FS := (sIf (mT (bOr (tst (e2 cmpNe (eFn 1 g_all_due (aCons (eVar 2) aNil)) (eVar 4))) (tst (e2 cmpNe (eFn 2 g_stand_many (aCons (eVar 1) (aCons (eVar 3) aNil))) (e2 gFdiv (eVar 3) (eVar 4)))))) (sRet (mP (eC (.bool false)))) sNext)
noncomputable def m_law_right_4 (g_law_are_marks_right : List D → Option (D × D)) (g_saved_visits : List D → Option D) (g_sooner_of : List D → Option D) (g_law_draw : List D → Option (D × D)) (g_joined_visits : List D → Option D) (g_plain_visits : List D → Option D) (g_done_many : List D → Option D) (g_turns_after : List D → Option D) (g_plain_days : List D → Option D) (g_marks_after : List D → Option D) (g_next_due : List D → Option D) (g_due_on : List D → Option D) (g_plain_many : List D → Option D) (g_marks_all : List D → Option D) (g_stand_many : List D → Option D) (g_all_due : List D → Option D) (g_round_of : List D → Option D) (g_law_any : List D → Option (D × D)) : FS := (sSet 5 (mP (eFn 2 g_marks_all (aCons (eVar 1) (aCons (e2 gAdd (eVar 3) (eC (.int 1))) aNil)))))
noncomputable def m_law_right_5 (g_law_are_marks_right : List D → Option (D × D)) (g_saved_visits : List D → Option D) (g_sooner_of : List D → Option D) (g_law_draw : List D → Option (D × D)) (g_joined_visits : List D → Option D) (g_plain_visits : List D → Option D) (g_done_many : List D → Option D) (g_turns_after : List D → Option D) (g_plain_days : List D → Option D) (g_marks_after : List D → Option D) (g_next_due : List D → Option D) (g_due_on : List D → Option D) (g_plain_many : List D → Option D) (g_marks_all : List D → Option D) (g_stand_many : List D → Option D) (g_all_due : List D → Option D) (g_round_of : List D → Option D) (g_law_any : List D → Option (D × D)) : FS := (sSet 6 (mP (eLc [14] (iSelf (eVar 5)) (bName 14) bTrue (eCall gTupOf (aCons (eLc [15, 16] (iOf giEnum (aCons (eVar 14) aNil)) (bTup (bCons (bName 15) (bCons (bName 16) bNil))) (tst (e2 cmpEq (eVar 16) (eC (.int 0)))) (eFrz (eVar 15))) aNil)))))
noncomputable def m_law_right_6 (g_law_are_marks_right : List D → Option (D × D)) (g_saved_visits : List D → Option D) (g_sooner_of : List D → Option D) (g_law_draw : List D → Option (D × D)) (g_joined_visits : List D → Option D) (g_plain_visits : List D → Option D) (g_done_many : List D → Option D) (g_turns_after : List D → Option D) (g_plain_days : List D → Option D) (g_marks_after : List D → Option D) (g_next_due : List D → Option D) (g_due_on : List D → Option D) (g_plain_many : List D → Option D) (g_marks_all : List D → Option D) (g_stand_many : List D → Option D) (g_all_due : List D → Option D) (g_round_of : List D → Option D) (g_law_any : List D → Option (D × D)) : FS := (sIf (mT (tst (e2 cmpNe (eFn 2 g_plain_visits (aCons (eVar 2) (aCons (eVar 3) aNil))) (eCall gTupOf (aCons (eLc [7] (iOf giRg2 (aCons (eC (.int 1)) (aCons (e2 gAdd (eVar 3) (eC (.int 1))) aNil))) (bName 7) (tst (e2 cmpNe (e2 gIx (eVar 6) (eVar 7)) (eTup aNil))) (eFrz (eVar 7))) aNil))))) (sRet (mP (eC (.bool false)))) sNext)
noncomputable def m_law_right_7 (g_law_are_marks_right : List D → Option (D × D)) (g_saved_visits : List D → Option D) (g_sooner_of : List D → Option D) (g_law_draw : List D → Option (D × D)) (g_joined_visits : List D → Option D) (g_plain_visits : List D → Option D) (g_done_many : List D → Option D) (g_turns_after : List D → Option D) (g_plain_days : List D → Option D) (g_marks_after : List D → Option D) (g_next_due : List D → Option D) (g_due_on : List D → Option D) (g_plain_many : List D → Option D) (g_marks_all : List D → Option D) (g_stand_many : List D → Option D) (g_all_due : List D → Option D) (g_round_of : List D → Option D) (g_law_any : List D → Option (D × D)) : FS := (sIf (mT (tst (e2 cmpNe (eFn 2 g_plain_many (aCons (eVar 2) (aCons (eVar 3) aNil))) (eCall gLen (aCons (eLc [7] (iOf giRg2 (aCons (eC (.int 1)) (aCons (e2 gAdd (eVar 3) (eC (.int 1))) aNil))) (bName 7) (tst (e2 cmpNe (e2 gIx (eVar 6) (eVar 7)) (eTup aNil))) (eFrz (eVar 7))) aNil))))) (sRet (mP (eC (.bool false)))) sNext)
noncomputable def m_law_right_8 (g_law_are_marks_right : List D → Option (D × D)) (g_saved_visits : List D → Option D) (g_sooner_of : List D → Option D) (g_law_draw : List D → Option (D × D)) (g_joined_visits : List D → Option D) (g_plain_visits : List D → Option D) (g_done_many : List D → Option D) (g_turns_after : List D → Option D) (g_plain_days : List D → Option D) (g_marks_after : List D → Option D) (g_next_due : List D → Option D) (g_due_on : List D → Option D) (g_plain_many : List D → Option D) (g_marks_all : List D → Option D) (g_stand_many : List D → Option D) (g_all_due : List D → Option D) (g_round_of : List D → Option D) (g_law_any : List D → Option (D × D)) : FS := (sSet 7 (m2 gAdd (mP (eC (.int 1))) (mIo 2 0 g_law_draw (mhHole (maCons (mP (eC (.int 900))) maNil)))))
noncomputable def m_law_right_9 (g_law_are_marks_right : List D → Option (D × D)) (g_saved_visits : List D → Option D) (g_sooner_of : List D → Option D) (g_law_draw : List D → Option (D × D)) (g_joined_visits : List D → Option D) (g_plain_visits : List D → Option D) (g_done_many : List D → Option D) (g_turns_after : List D → Option D) (g_plain_days : List D → Option D) (g_marks_after : List D → Option D) (g_next_due : List D → Option D) (g_due_on : List D → Option D) (g_plain_many : List D → Option D) (g_marks_all : List D → Option D) (g_stand_many : List D → Option D) (g_all_due : List D → Option D) (g_round_of : List D → Option D) (g_law_any : List D → Option (D × D)) : FS := (sIf (mT (tst (e2 cmpNe (eFn 2 g_due_on (aCons (eVar 2) (aCons (eVar 7) aNil))) (eCall gTupOf (aCons (eLc [15, 16] (iOf giEnum (aCons (eFn 2 g_marks_after (aCons (eVar 1) (aCons (eVar 7) aNil))) aNil)) (bTup (bCons (bName 15) (bCons (bName 16) bNil))) (tst (e2 cmpEq (eVar 16) (eC (.int 0)))) (eFrz (eVar 15))) aNil))))) (sRet (mP (eC (.bool false)))) sNext)
noncomputable def m_law_right_10 (g_law_are_marks_right : List D → Option (D × D)) (g_saved_visits : List D → Option D) (g_sooner_of : List D → Option D) (g_law_draw : List D → Option (D × D)) (g_joined_visits : List D → Option D) (g_plain_visits : List D → Option D) (g_done_many : List D → Option D) (g_turns_after : List D → Option D) (g_plain_days : List D → Option D) (g_marks_after : List D → Option D) (g_next_due : List D → Option D) (g_due_on : List D → Option D) (g_plain_many : List D → Option D) (g_marks_all : List D → Option D) (g_stand_many : List D → Option D) (g_all_due : List D → Option D) (g_round_of : List D → Option D) (g_law_any : List D → Option (D × D)) : FS := (sAsg (bTup (bCons (mbName 8) (bCons (mbName 9) bNil))) (mP (eFn 2 g_next_due (aCons (eVar 2) (aCons (eVar 7) aNil)))))
noncomputable def m_law_right_11 (g_law_are_marks_right : List D → Option (D × D)) (g_saved_visits : List D → Option D) (g_sooner_of : List D → Option D) (g_law_draw : List D → Option (D × D)) (g_joined_visits : List D → Option D) (g_plain_visits : List D → Option D) (g_done_many : List D → Option D) (g_turns_after : List D → Option D) (g_plain_days : List D → Option D) (g_marks_after : List D → Option D) (g_next_due : List D → Option D) (g_due_on : List D → Option D) (g_plain_many : List D → Option D) (g_marks_all : List D → Option D) (g_stand_many : List D → Option D) (g_all_due : List D → Option D) (g_round_of : List D → Option D) (g_law_any : List D → Option (D × D)) : FS := (sIf (mT (bOr (tst (e2 cmpNe (eVar 9) (eCall gTupOf (aCons (eLc [15, 16] (iOf giEnum (aCons (eFn 2 g_marks_after (aCons (eVar 1) (aCons (eVar 8) aNil))) aNil)) (bTup (bCons (bName 15) (bCons (bName 16) bNil))) (tst (e2 cmpEq (eVar 16) (eC (.int 0)))) (eFrz (eVar 15))) aNil)))) (tst (e2 cmpEq (eVar 9) (eTup aNil))))) (sRet (mP (eC (.bool false)))) sNext)
noncomputable def m_law_right_12 (g_law_are_marks_right : List D → Option (D × D)) (g_saved_visits : List D → Option D) (g_sooner_of : List D → Option D) (g_law_draw : List D → Option (D × D)) (g_joined_visits : List D → Option D) (g_plain_visits : List D → Option D) (g_done_many : List D → Option D) (g_turns_after : List D → Option D) (g_plain_days : List D → Option D) (g_marks_after : List D → Option D) (g_next_due : List D → Option D) (g_due_on : List D → Option D) (g_plain_many : List D → Option D) (g_marks_all : List D → Option D) (g_stand_many : List D → Option D) (g_all_due : List D → Option D) (g_round_of : List D → Option D) (g_law_any : List D → Option (D × D)) : FS := (sIf (mT (tst (eCall gAny (aCons (eLc [17] (iOf giRg2 (aCons (e2 gAdd (eVar 7) (eC (.int 1))) (aCons (eVar 8) aNil))) (bName 17) bTrue (e2 cmpIn (eC (.int 0)) (eFn 2 g_marks_after (aCons (eVar 1) (aCons (eVar 17) aNil))))) aNil)))) (sRet (mP (eC (.bool false)))) sNext)
noncomputable def m_law_right_13 (g_law_are_marks_right : List D → Option (D × D)) (g_saved_visits : List D → Option D) (g_sooner_of : List D → Option D) (g_law_draw : List D → Option (D × D)) (g_joined_visits : List D → Option D) (g_plain_visits : List D → Option D) (g_done_many : List D → Option D) (g_turns_after : List D → Option D) (g_plain_days : List D → Option D) (g_marks_after : List D → Option D) (g_next_due : List D → Option D) (g_due_on : List D → Option D) (g_plain_many : List D → Option D) (g_marks_all : List D → Option D) (g_stand_many : List D → Option D) (g_all_due : List D → Option D) (g_round_of : List D → Option D) (g_law_any : List D → Option (D × D)) : FS := (sIf (mT (tst (e2 cmpNe (eLc [14] (iSelf (eFn 2 g_plain_days (aCons (eVar 2) (aCons (eVar 3) aNil)))) (bName 14) bTrue (eCall gLen (aCons (eVar 14) aNil))) (eLc [18, 19] (iSelf (eFn 2 g_turns_after (aCons (eVar 1) (aCons (eVar 3) aNil)))) (bTup (bCons (bName 18) (bCons (bName 19) bNil))) bTrue (eFrz (eVar 18)))))) (sRet (mP (eC (.bool false)))) sNext)
noncomputable def m_law_right_14 (g_law_are_marks_right : List D → Option (D × D)) (g_saved_visits : List D → Option D) (g_sooner_of : List D → Option D) (g_law_draw : List D → Option (D × D)) (g_joined_visits : List D → Option D) (g_plain_visits : List D → Option D) (g_done_many : List D → Option D) (g_turns_after : List D → Option D) (g_plain_days : List D → Option D) (g_marks_after : List D → Option D) (g_next_due : List D → Option D) (g_due_on : List D → Option D) (g_plain_many : List D → Option D) (g_marks_all : List D → Option D) (g_stand_many : List D → Option D) (g_all_due : List D → Option D) (g_round_of : List D → Option D) (g_law_any : List D → Option (D × D)) : FS := (sIf (mT (tst (e2 cmpNe (eFn 2 g_done_many (aCons (eVar 2) (aCons (eVar 3) aNil))) (eCall gTupOf (aCons (eLc [18, 19] (iSelf (eFn 2 g_turns_after (aCons (eVar 1) (aCons (eVar 3) aNil)))) (bTup (bCons (bName 18) (bCons (bName 19) bNil))) bTrue (eFrz (eVar 18))) aNil))))) (sRet (mP (eC (.bool false)))) sNext)
noncomputable def m_law_right_15 (g_law_are_marks_right : List D → Option (D × D)) (g_saved_visits : List D → Option D) (g_sooner_of : List D → Option D) (g_law_draw : List D → Option (D × D)) (g_joined_visits : List D → Option D) (g_plain_visits : List D → Option D) (g_done_many : List D → Option D) (g_turns_after : List D → Option D) (g_plain_days : List D → Option D) (g_marks_after : List D → Option D) (g_next_due : List D → Option D) (g_due_on : List D → Option D) (g_plain_many : List D → Option D) (g_marks_all : List D → Option D) (g_stand_many : List D → Option D) (g_all_due : List D → Option D) (g_round_of : List D → Option D) (g_law_any : List D → Option (D × D)) : FS := (sIf (mT (tst (e2 cmpNe (eCall gTupOf (aCons (eLc [20] (iSelf (eFn 2 g_joined_visits (aCons (eVar 2) (aCons (eVar 3) aNil)))) (bName 20) bTrue (eFrz (e2 gIx (eVar 20) (eC (.int 0))))) aNil)) (eFn 2 g_plain_visits (aCons (eVar 2) (aCons (eVar 3) aNil)))))) (sRet (mP (eC (.bool false)))) sNext)
noncomputable def m_law_right_16 (g_law_are_marks_right : List D → Option (D × D)) (g_saved_visits : List D → Option D) (g_sooner_of : List D → Option D) (g_law_draw : List D → Option (D × D)) (g_joined_visits : List D → Option D) (g_plain_visits : List D → Option D) (g_done_many : List D → Option D) (g_turns_after : List D → Option D) (g_plain_days : List D → Option D) (g_marks_after : List D → Option D) (g_next_due : List D → Option D) (g_due_on : List D → Option D) (g_plain_many : List D → Option D) (g_marks_all : List D → Option D) (g_stand_many : List D → Option D) (g_all_due : List D → Option D) (g_round_of : List D → Option D) (g_law_any : List D → Option (D × D)) : FS := (sSet 10 (mIo 2 0 g_law_draw (mhHole (maCons (mP (eC (.int 1001))) maNil))))
noncomputable def m_law_right_17 (g_law_are_marks_right : List D → Option (D × D)) (g_saved_visits : List D → Option D) (g_sooner_of : List D → Option D) (g_law_draw : List D → Option (D × D)) (g_joined_visits : List D → Option D) (g_plain_visits : List D → Option D) (g_done_many : List D → Option D) (g_turns_after : List D → Option D) (g_plain_days : List D → Option D) (g_marks_after : List D → Option D) (g_next_due : List D → Option D) (g_due_on : List D → Option D) (g_plain_many : List D → Option D) (g_marks_all : List D → Option D) (g_stand_many : List D → Option D) (g_all_due : List D → Option D) (g_round_of : List D → Option D) (g_law_any : List D → Option (D × D)) : FS := (sSet 6 (mP (eLst aNil)))
noncomputable def m_law_right_18 (g_law_are_marks_right : List D → Option (D × D)) (g_saved_visits : List D → Option D) (g_sooner_of : List D → Option D) (g_law_draw : List D → Option (D × D)) (g_joined_visits : List D → Option D) (g_plain_visits : List D → Option D) (g_done_many : List D → Option D) (g_turns_after : List D → Option D) (g_plain_days : List D → Option D) (g_marks_after : List D → Option D) (g_next_due : List D → Option D) (g_due_on : List D → Option D) (g_plain_many : List D → Option D) (g_marks_all : List D → Option D) (g_stand_many : List D → Option D) (g_all_due : List D → Option D) (g_round_of : List D → Option D) (g_law_any : List D → Option (D × D)) : FS := (sFor (miSelf (mLend 1)) (bbName 11) (sSeq (sSet 12 (mP (eLc [7] (iOf giRg2 (aCons (eC (.int 1)) (aCons (e2 gAdd (eVar 11) (eC (.int 1))) aNil))) (bName 7) (tst (e2 cmpGe (e2 gMul (eVar 7) (eVar 10)) (e2 gMul (eC (.int 100)) (eVar 11)))) (eFrz (eVar 7)))))
  (sExpr (mApp 6 (mP (eFrz (eIf (tst (e2 cmpNe (eVar 12) (eLst aNil))) (e2 gIx (eVar 12) (eC (.int 0))) (eVar 11))))))))
noncomputable def m_law_right_19 (g_law_are_marks_right : List D → Option (D × D)) (g_saved_visits : List D → Option D) (g_sooner_of : List D → Option D) (g_law_draw : List D → Option (D × D)) (g_joined_visits : List D → Option D) (g_plain_visits : List D → Option D) (g_done_many : List D → Option D) (g_turns_after : List D → Option D) (g_plain_days : List D → Option D) (g_marks_after : List D → Option D) (g_next_due : List D → Option D) (g_due_on : List D → Option D) (g_plain_many : List D → Option D) (g_marks_all : List D → Option D) (g_stand_many : List D → Option D) (g_all_due : List D → Option D) (g_round_of : List D → Option D) (g_law_any : List D → Option (D × D)) : FS := (sIf (mT (tst (e2 cmpNe (eFn 3 g_sooner_of (aCons (eVar 2) (aCons (eVar 3) (aCons (eVar 10) aNil)))) (eCall gTupOf (aCons (eVar 6) aNil))))) (sRet (mP (eC (.bool false)))) sNext)
noncomputable def m_law_right_20 (g_law_are_marks_right : List D → Option (D × D)) (g_saved_visits : List D → Option D) (g_sooner_of : List D → Option D) (g_law_draw : List D → Option (D × D)) (g_joined_visits : List D → Option D) (g_plain_visits : List D → Option D) (g_done_many : List D → Option D) (g_turns_after : List D → Option D) (g_plain_days : List D → Option D) (g_marks_after : List D → Option D) (g_next_due : List D → Option D) (g_due_on : List D → Option D) (g_plain_many : List D → Option D) (g_marks_all : List D → Option D) (g_stand_many : List D → Option D) (g_all_due : List D → Option D) (g_round_of : List D → Option D) (g_law_any : List D → Option (D × D)) : FS := (sRet (mAndV (mP (e2 cmpEq (eFn 2 g_saved_visits (aCons (eVar 2) (aCons (eVar 3) aNil))) (eC (.int 0)))) (mIo 3 0 g_law_are_marks_right (mhHole (maCons (mLend 1) (maCons (mLend 4) maNil))))))
noncomputable def b_law_right_20 (g_law_are_marks_right : List D → Option (D × D)) (g_saved_visits : List D → Option D) (g_sooner_of : List D → Option D) (g_law_draw : List D → Option (D × D)) (g_joined_visits : List D → Option D) (g_plain_visits : List D → Option D) (g_done_many : List D → Option D) (g_turns_after : List D → Option D) (g_plain_days : List D → Option D) (g_marks_after : List D → Option D) (g_next_due : List D → Option D) (g_due_on : List D → Option D) (g_plain_many : List D → Option D) (g_marks_all : List D → Option D) (g_stand_many : List D → Option D) (g_all_due : List D → Option D) (g_round_of : List D → Option D) (g_law_any : List D → Option (D × D)) : FS := m_law_right_20 g_law_are_marks_right g_saved_visits g_sooner_of g_law_draw g_joined_visits g_plain_visits g_done_many g_turns_after g_plain_days g_marks_after g_next_due g_due_on g_plain_many g_marks_all g_stand_many g_all_due g_round_of g_law_any
noncomputable def b_law_right_19 (g_law_are_marks_right : List D → Option (D × D)) (g_saved_visits : List D → Option D) (g_sooner_of : List D → Option D) (g_law_draw : List D → Option (D × D)) (g_joined_visits : List D → Option D) (g_plain_visits : List D → Option D) (g_done_many : List D → Option D) (g_turns_after : List D → Option D) (g_plain_days : List D → Option D) (g_marks_after : List D → Option D) (g_next_due : List D → Option D) (g_due_on : List D → Option D) (g_plain_many : List D → Option D) (g_marks_all : List D → Option D) (g_stand_many : List D → Option D) (g_all_due : List D → Option D) (g_round_of : List D → Option D) (g_law_any : List D → Option (D × D)) : FS := sSeq (m_law_right_19 g_law_are_marks_right g_saved_visits g_sooner_of g_law_draw g_joined_visits g_plain_visits g_done_many g_turns_after g_plain_days g_marks_after g_next_due g_due_on g_plain_many g_marks_all g_stand_many g_all_due g_round_of g_law_any) (b_law_right_20 g_law_are_marks_right g_saved_visits g_sooner_of g_law_draw g_joined_visits g_plain_visits g_done_many g_turns_after g_plain_days g_marks_after g_next_due g_due_on g_plain_many g_marks_all g_stand_many g_all_due g_round_of g_law_any)
noncomputable def b_law_right_18 (g_law_are_marks_right : List D → Option (D × D)) (g_saved_visits : List D → Option D) (g_sooner_of : List D → Option D) (g_law_draw : List D → Option (D × D)) (g_joined_visits : List D → Option D) (g_plain_visits : List D → Option D) (g_done_many : List D → Option D) (g_turns_after : List D → Option D) (g_plain_days : List D → Option D) (g_marks_after : List D → Option D) (g_next_due : List D → Option D) (g_due_on : List D → Option D) (g_plain_many : List D → Option D) (g_marks_all : List D → Option D) (g_stand_many : List D → Option D) (g_all_due : List D → Option D) (g_round_of : List D → Option D) (g_law_any : List D → Option (D × D)) : FS := sSeq (m_law_right_18 g_law_are_marks_right g_saved_visits g_sooner_of g_law_draw g_joined_visits g_plain_visits g_done_many g_turns_after g_plain_days g_marks_after g_next_due g_due_on g_plain_many g_marks_all g_stand_many g_all_due g_round_of g_law_any) (b_law_right_19 g_law_are_marks_right g_saved_visits g_sooner_of g_law_draw g_joined_visits g_plain_visits g_done_many g_turns_after g_plain_days g_marks_after g_next_due g_due_on g_plain_many g_marks_all g_stand_many g_all_due g_round_of g_law_any)
noncomputable def b_law_right_17 (g_law_are_marks_right : List D → Option (D × D)) (g_saved_visits : List D → Option D) (g_sooner_of : List D → Option D) (g_law_draw : List D → Option (D × D)) (g_joined_visits : List D → Option D) (g_plain_visits : List D → Option D) (g_done_many : List D → Option D) (g_turns_after : List D → Option D) (g_plain_days : List D → Option D) (g_marks_after : List D → Option D) (g_next_due : List D → Option D) (g_due_on : List D → Option D) (g_plain_many : List D → Option D) (g_marks_all : List D → Option D) (g_stand_many : List D → Option D) (g_all_due : List D → Option D) (g_round_of : List D → Option D) (g_law_any : List D → Option (D × D)) : FS := sSeq (m_law_right_17 g_law_are_marks_right g_saved_visits g_sooner_of g_law_draw g_joined_visits g_plain_visits g_done_many g_turns_after g_plain_days g_marks_after g_next_due g_due_on g_plain_many g_marks_all g_stand_many g_all_due g_round_of g_law_any) (b_law_right_18 g_law_are_marks_right g_saved_visits g_sooner_of g_law_draw g_joined_visits g_plain_visits g_done_many g_turns_after g_plain_days g_marks_after g_next_due g_due_on g_plain_many g_marks_all g_stand_many g_all_due g_round_of g_law_any)
noncomputable def b_law_right_16 (g_law_are_marks_right : List D → Option (D × D)) (g_saved_visits : List D → Option D) (g_sooner_of : List D → Option D) (g_law_draw : List D → Option (D × D)) (g_joined_visits : List D → Option D) (g_plain_visits : List D → Option D) (g_done_many : List D → Option D) (g_turns_after : List D → Option D) (g_plain_days : List D → Option D) (g_marks_after : List D → Option D) (g_next_due : List D → Option D) (g_due_on : List D → Option D) (g_plain_many : List D → Option D) (g_marks_all : List D → Option D) (g_stand_many : List D → Option D) (g_all_due : List D → Option D) (g_round_of : List D → Option D) (g_law_any : List D → Option (D × D)) : FS := sSeq (m_law_right_16 g_law_are_marks_right g_saved_visits g_sooner_of g_law_draw g_joined_visits g_plain_visits g_done_many g_turns_after g_plain_days g_marks_after g_next_due g_due_on g_plain_many g_marks_all g_stand_many g_all_due g_round_of g_law_any) (b_law_right_17 g_law_are_marks_right g_saved_visits g_sooner_of g_law_draw g_joined_visits g_plain_visits g_done_many g_turns_after g_plain_days g_marks_after g_next_due g_due_on g_plain_many g_marks_all g_stand_many g_all_due g_round_of g_law_any)
noncomputable def b_law_right_15 (g_law_are_marks_right : List D → Option (D × D)) (g_saved_visits : List D → Option D) (g_sooner_of : List D → Option D) (g_law_draw : List D → Option (D × D)) (g_joined_visits : List D → Option D) (g_plain_visits : List D → Option D) (g_done_many : List D → Option D) (g_turns_after : List D → Option D) (g_plain_days : List D → Option D) (g_marks_after : List D → Option D) (g_next_due : List D → Option D) (g_due_on : List D → Option D) (g_plain_many : List D → Option D) (g_marks_all : List D → Option D) (g_stand_many : List D → Option D) (g_all_due : List D → Option D) (g_round_of : List D → Option D) (g_law_any : List D → Option (D × D)) : FS := sSeq (m_law_right_15 g_law_are_marks_right g_saved_visits g_sooner_of g_law_draw g_joined_visits g_plain_visits g_done_many g_turns_after g_plain_days g_marks_after g_next_due g_due_on g_plain_many g_marks_all g_stand_many g_all_due g_round_of g_law_any) (b_law_right_16 g_law_are_marks_right g_saved_visits g_sooner_of g_law_draw g_joined_visits g_plain_visits g_done_many g_turns_after g_plain_days g_marks_after g_next_due g_due_on g_plain_many g_marks_all g_stand_many g_all_due g_round_of g_law_any)
noncomputable def b_law_right_14 (g_law_are_marks_right : List D → Option (D × D)) (g_saved_visits : List D → Option D) (g_sooner_of : List D → Option D) (g_law_draw : List D → Option (D × D)) (g_joined_visits : List D → Option D) (g_plain_visits : List D → Option D) (g_done_many : List D → Option D) (g_turns_after : List D → Option D) (g_plain_days : List D → Option D) (g_marks_after : List D → Option D) (g_next_due : List D → Option D) (g_due_on : List D → Option D) (g_plain_many : List D → Option D) (g_marks_all : List D → Option D) (g_stand_many : List D → Option D) (g_all_due : List D → Option D) (g_round_of : List D → Option D) (g_law_any : List D → Option (D × D)) : FS := sSeq (m_law_right_14 g_law_are_marks_right g_saved_visits g_sooner_of g_law_draw g_joined_visits g_plain_visits g_done_many g_turns_after g_plain_days g_marks_after g_next_due g_due_on g_plain_many g_marks_all g_stand_many g_all_due g_round_of g_law_any) (b_law_right_15 g_law_are_marks_right g_saved_visits g_sooner_of g_law_draw g_joined_visits g_plain_visits g_done_many g_turns_after g_plain_days g_marks_after g_next_due g_due_on g_plain_many g_marks_all g_stand_many g_all_due g_round_of g_law_any)
noncomputable def b_law_right_13 (g_law_are_marks_right : List D → Option (D × D)) (g_saved_visits : List D → Option D) (g_sooner_of : List D → Option D) (g_law_draw : List D → Option (D × D)) (g_joined_visits : List D → Option D) (g_plain_visits : List D → Option D) (g_done_many : List D → Option D) (g_turns_after : List D → Option D) (g_plain_days : List D → Option D) (g_marks_after : List D → Option D) (g_next_due : List D → Option D) (g_due_on : List D → Option D) (g_plain_many : List D → Option D) (g_marks_all : List D → Option D) (g_stand_many : List D → Option D) (g_all_due : List D → Option D) (g_round_of : List D → Option D) (g_law_any : List D → Option (D × D)) : FS := sSeq (m_law_right_13 g_law_are_marks_right g_saved_visits g_sooner_of g_law_draw g_joined_visits g_plain_visits g_done_many g_turns_after g_plain_days g_marks_after g_next_due g_due_on g_plain_many g_marks_all g_stand_many g_all_due g_round_of g_law_any) (b_law_right_14 g_law_are_marks_right g_saved_visits g_sooner_of g_law_draw g_joined_visits g_plain_visits g_done_many g_turns_after g_plain_days g_marks_after g_next_due g_due_on g_plain_many g_marks_all g_stand_many g_all_due g_round_of g_law_any)
noncomputable def b_law_right_12 (g_law_are_marks_right : List D → Option (D × D)) (g_saved_visits : List D → Option D) (g_sooner_of : List D → Option D) (g_law_draw : List D → Option (D × D)) (g_joined_visits : List D → Option D) (g_plain_visits : List D → Option D) (g_done_many : List D → Option D) (g_turns_after : List D → Option D) (g_plain_days : List D → Option D) (g_marks_after : List D → Option D) (g_next_due : List D → Option D) (g_due_on : List D → Option D) (g_plain_many : List D → Option D) (g_marks_all : List D → Option D) (g_stand_many : List D → Option D) (g_all_due : List D → Option D) (g_round_of : List D → Option D) (g_law_any : List D → Option (D × D)) : FS := sSeq (m_law_right_12 g_law_are_marks_right g_saved_visits g_sooner_of g_law_draw g_joined_visits g_plain_visits g_done_many g_turns_after g_plain_days g_marks_after g_next_due g_due_on g_plain_many g_marks_all g_stand_many g_all_due g_round_of g_law_any) (b_law_right_13 g_law_are_marks_right g_saved_visits g_sooner_of g_law_draw g_joined_visits g_plain_visits g_done_many g_turns_after g_plain_days g_marks_after g_next_due g_due_on g_plain_many g_marks_all g_stand_many g_all_due g_round_of g_law_any)
noncomputable def b_law_right_11 (g_law_are_marks_right : List D → Option (D × D)) (g_saved_visits : List D → Option D) (g_sooner_of : List D → Option D) (g_law_draw : List D → Option (D × D)) (g_joined_visits : List D → Option D) (g_plain_visits : List D → Option D) (g_done_many : List D → Option D) (g_turns_after : List D → Option D) (g_plain_days : List D → Option D) (g_marks_after : List D → Option D) (g_next_due : List D → Option D) (g_due_on : List D → Option D) (g_plain_many : List D → Option D) (g_marks_all : List D → Option D) (g_stand_many : List D → Option D) (g_all_due : List D → Option D) (g_round_of : List D → Option D) (g_law_any : List D → Option (D × D)) : FS := sSeq (m_law_right_11 g_law_are_marks_right g_saved_visits g_sooner_of g_law_draw g_joined_visits g_plain_visits g_done_many g_turns_after g_plain_days g_marks_after g_next_due g_due_on g_plain_many g_marks_all g_stand_many g_all_due g_round_of g_law_any) (b_law_right_12 g_law_are_marks_right g_saved_visits g_sooner_of g_law_draw g_joined_visits g_plain_visits g_done_many g_turns_after g_plain_days g_marks_after g_next_due g_due_on g_plain_many g_marks_all g_stand_many g_all_due g_round_of g_law_any)
noncomputable def b_law_right_10 (g_law_are_marks_right : List D → Option (D × D)) (g_saved_visits : List D → Option D) (g_sooner_of : List D → Option D) (g_law_draw : List D → Option (D × D)) (g_joined_visits : List D → Option D) (g_plain_visits : List D → Option D) (g_done_many : List D → Option D) (g_turns_after : List D → Option D) (g_plain_days : List D → Option D) (g_marks_after : List D → Option D) (g_next_due : List D → Option D) (g_due_on : List D → Option D) (g_plain_many : List D → Option D) (g_marks_all : List D → Option D) (g_stand_many : List D → Option D) (g_all_due : List D → Option D) (g_round_of : List D → Option D) (g_law_any : List D → Option (D × D)) : FS := sSeq (m_law_right_10 g_law_are_marks_right g_saved_visits g_sooner_of g_law_draw g_joined_visits g_plain_visits g_done_many g_turns_after g_plain_days g_marks_after g_next_due g_due_on g_plain_many g_marks_all g_stand_many g_all_due g_round_of g_law_any) (b_law_right_11 g_law_are_marks_right g_saved_visits g_sooner_of g_law_draw g_joined_visits g_plain_visits g_done_many g_turns_after g_plain_days g_marks_after g_next_due g_due_on g_plain_many g_marks_all g_stand_many g_all_due g_round_of g_law_any)
noncomputable def b_law_right_9 (g_law_are_marks_right : List D → Option (D × D)) (g_saved_visits : List D → Option D) (g_sooner_of : List D → Option D) (g_law_draw : List D → Option (D × D)) (g_joined_visits : List D → Option D) (g_plain_visits : List D → Option D) (g_done_many : List D → Option D) (g_turns_after : List D → Option D) (g_plain_days : List D → Option D) (g_marks_after : List D → Option D) (g_next_due : List D → Option D) (g_due_on : List D → Option D) (g_plain_many : List D → Option D) (g_marks_all : List D → Option D) (g_stand_many : List D → Option D) (g_all_due : List D → Option D) (g_round_of : List D → Option D) (g_law_any : List D → Option (D × D)) : FS := sSeq (m_law_right_9 g_law_are_marks_right g_saved_visits g_sooner_of g_law_draw g_joined_visits g_plain_visits g_done_many g_turns_after g_plain_days g_marks_after g_next_due g_due_on g_plain_many g_marks_all g_stand_many g_all_due g_round_of g_law_any) (b_law_right_10 g_law_are_marks_right g_saved_visits g_sooner_of g_law_draw g_joined_visits g_plain_visits g_done_many g_turns_after g_plain_days g_marks_after g_next_due g_due_on g_plain_many g_marks_all g_stand_many g_all_due g_round_of g_law_any)
noncomputable def b_law_right_8 (g_law_are_marks_right : List D → Option (D × D)) (g_saved_visits : List D → Option D) (g_sooner_of : List D → Option D) (g_law_draw : List D → Option (D × D)) (g_joined_visits : List D → Option D) (g_plain_visits : List D → Option D) (g_done_many : List D → Option D) (g_turns_after : List D → Option D) (g_plain_days : List D → Option D) (g_marks_after : List D → Option D) (g_next_due : List D → Option D) (g_due_on : List D → Option D) (g_plain_many : List D → Option D) (g_marks_all : List D → Option D) (g_stand_many : List D → Option D) (g_all_due : List D → Option D) (g_round_of : List D → Option D) (g_law_any : List D → Option (D × D)) : FS := sSeq (m_law_right_8 g_law_are_marks_right g_saved_visits g_sooner_of g_law_draw g_joined_visits g_plain_visits g_done_many g_turns_after g_plain_days g_marks_after g_next_due g_due_on g_plain_many g_marks_all g_stand_many g_all_due g_round_of g_law_any) (b_law_right_9 g_law_are_marks_right g_saved_visits g_sooner_of g_law_draw g_joined_visits g_plain_visits g_done_many g_turns_after g_plain_days g_marks_after g_next_due g_due_on g_plain_many g_marks_all g_stand_many g_all_due g_round_of g_law_any)
noncomputable def b_law_right_7 (g_law_are_marks_right : List D → Option (D × D)) (g_saved_visits : List D → Option D) (g_sooner_of : List D → Option D) (g_law_draw : List D → Option (D × D)) (g_joined_visits : List D → Option D) (g_plain_visits : List D → Option D) (g_done_many : List D → Option D) (g_turns_after : List D → Option D) (g_plain_days : List D → Option D) (g_marks_after : List D → Option D) (g_next_due : List D → Option D) (g_due_on : List D → Option D) (g_plain_many : List D → Option D) (g_marks_all : List D → Option D) (g_stand_many : List D → Option D) (g_all_due : List D → Option D) (g_round_of : List D → Option D) (g_law_any : List D → Option (D × D)) : FS := sSeq (m_law_right_7 g_law_are_marks_right g_saved_visits g_sooner_of g_law_draw g_joined_visits g_plain_visits g_done_many g_turns_after g_plain_days g_marks_after g_next_due g_due_on g_plain_many g_marks_all g_stand_many g_all_due g_round_of g_law_any) (b_law_right_8 g_law_are_marks_right g_saved_visits g_sooner_of g_law_draw g_joined_visits g_plain_visits g_done_many g_turns_after g_plain_days g_marks_after g_next_due g_due_on g_plain_many g_marks_all g_stand_many g_all_due g_round_of g_law_any)
noncomputable def b_law_right_6 (g_law_are_marks_right : List D → Option (D × D)) (g_saved_visits : List D → Option D) (g_sooner_of : List D → Option D) (g_law_draw : List D → Option (D × D)) (g_joined_visits : List D → Option D) (g_plain_visits : List D → Option D) (g_done_many : List D → Option D) (g_turns_after : List D → Option D) (g_plain_days : List D → Option D) (g_marks_after : List D → Option D) (g_next_due : List D → Option D) (g_due_on : List D → Option D) (g_plain_many : List D → Option D) (g_marks_all : List D → Option D) (g_stand_many : List D → Option D) (g_all_due : List D → Option D) (g_round_of : List D → Option D) (g_law_any : List D → Option (D × D)) : FS := sSeq (m_law_right_6 g_law_are_marks_right g_saved_visits g_sooner_of g_law_draw g_joined_visits g_plain_visits g_done_many g_turns_after g_plain_days g_marks_after g_next_due g_due_on g_plain_many g_marks_all g_stand_many g_all_due g_round_of g_law_any) (b_law_right_7 g_law_are_marks_right g_saved_visits g_sooner_of g_law_draw g_joined_visits g_plain_visits g_done_many g_turns_after g_plain_days g_marks_after g_next_due g_due_on g_plain_many g_marks_all g_stand_many g_all_due g_round_of g_law_any)
noncomputable def b_law_right_5 (g_law_are_marks_right : List D → Option (D × D)) (g_saved_visits : List D → Option D) (g_sooner_of : List D → Option D) (g_law_draw : List D → Option (D × D)) (g_joined_visits : List D → Option D) (g_plain_visits : List D → Option D) (g_done_many : List D → Option D) (g_turns_after : List D → Option D) (g_plain_days : List D → Option D) (g_marks_after : List D → Option D) (g_next_due : List D → Option D) (g_due_on : List D → Option D) (g_plain_many : List D → Option D) (g_marks_all : List D → Option D) (g_stand_many : List D → Option D) (g_all_due : List D → Option D) (g_round_of : List D → Option D) (g_law_any : List D → Option (D × D)) : FS := sSeq (m_law_right_5 g_law_are_marks_right g_saved_visits g_sooner_of g_law_draw g_joined_visits g_plain_visits g_done_many g_turns_after g_plain_days g_marks_after g_next_due g_due_on g_plain_many g_marks_all g_stand_many g_all_due g_round_of g_law_any) (b_law_right_6 g_law_are_marks_right g_saved_visits g_sooner_of g_law_draw g_joined_visits g_plain_visits g_done_many g_turns_after g_plain_days g_marks_after g_next_due g_due_on g_plain_many g_marks_all g_stand_many g_all_due g_round_of g_law_any)
noncomputable def b_law_right_4 (g_law_are_marks_right : List D → Option (D × D)) (g_saved_visits : List D → Option D) (g_sooner_of : List D → Option D) (g_law_draw : List D → Option (D × D)) (g_joined_visits : List D → Option D) (g_plain_visits : List D → Option D) (g_done_many : List D → Option D) (g_turns_after : List D → Option D) (g_plain_days : List D → Option D) (g_marks_after : List D → Option D) (g_next_due : List D → Option D) (g_due_on : List D → Option D) (g_plain_many : List D → Option D) (g_marks_all : List D → Option D) (g_stand_many : List D → Option D) (g_all_due : List D → Option D) (g_round_of : List D → Option D) (g_law_any : List D → Option (D × D)) : FS := sSeq (m_law_right_4 g_law_are_marks_right g_saved_visits g_sooner_of g_law_draw g_joined_visits g_plain_visits g_done_many g_turns_after g_plain_days g_marks_after g_next_due g_due_on g_plain_many g_marks_all g_stand_many g_all_due g_round_of g_law_any) (b_law_right_5 g_law_are_marks_right g_saved_visits g_sooner_of g_law_draw g_joined_visits g_plain_visits g_done_many g_turns_after g_plain_days g_marks_after g_next_due g_due_on g_plain_many g_marks_all g_stand_many g_all_due g_round_of g_law_any)
noncomputable def b_law_right_3 (g_law_are_marks_right : List D → Option (D × D)) (g_saved_visits : List D → Option D) (g_sooner_of : List D → Option D) (g_law_draw : List D → Option (D × D)) (g_joined_visits : List D → Option D) (g_plain_visits : List D → Option D) (g_done_many : List D → Option D) (g_turns_after : List D → Option D) (g_plain_days : List D → Option D) (g_marks_after : List D → Option D) (g_next_due : List D → Option D) (g_due_on : List D → Option D) (g_plain_many : List D → Option D) (g_marks_all : List D → Option D) (g_stand_many : List D → Option D) (g_all_due : List D → Option D) (g_round_of : List D → Option D) (g_law_any : List D → Option (D × D)) : FS := sSeq (m_law_right_3 g_law_are_marks_right g_saved_visits g_sooner_of g_law_draw g_joined_visits g_plain_visits g_done_many g_turns_after g_plain_days g_marks_after g_next_due g_due_on g_plain_many g_marks_all g_stand_many g_all_due g_round_of g_law_any) (b_law_right_4 g_law_are_marks_right g_saved_visits g_sooner_of g_law_draw g_joined_visits g_plain_visits g_done_many g_turns_after g_plain_days g_marks_after g_next_due g_due_on g_plain_many g_marks_all g_stand_many g_all_due g_round_of g_law_any)
noncomputable def b_law_right_2 (g_law_are_marks_right : List D → Option (D × D)) (g_saved_visits : List D → Option D) (g_sooner_of : List D → Option D) (g_law_draw : List D → Option (D × D)) (g_joined_visits : List D → Option D) (g_plain_visits : List D → Option D) (g_done_many : List D → Option D) (g_turns_after : List D → Option D) (g_plain_days : List D → Option D) (g_marks_after : List D → Option D) (g_next_due : List D → Option D) (g_due_on : List D → Option D) (g_plain_many : List D → Option D) (g_marks_all : List D → Option D) (g_stand_many : List D → Option D) (g_all_due : List D → Option D) (g_round_of : List D → Option D) (g_law_any : List D → Option (D × D)) : FS := sSeq (m_law_right_2 g_law_are_marks_right g_saved_visits g_sooner_of g_law_draw g_joined_visits g_plain_visits g_done_many g_turns_after g_plain_days g_marks_after g_next_due g_due_on g_plain_many g_marks_all g_stand_many g_all_due g_round_of g_law_any) (b_law_right_3 g_law_are_marks_right g_saved_visits g_sooner_of g_law_draw g_joined_visits g_plain_visits g_done_many g_turns_after g_plain_days g_marks_after g_next_due g_due_on g_plain_many g_marks_all g_stand_many g_all_due g_round_of g_law_any)
noncomputable def b_law_right_1 (g_law_are_marks_right : List D → Option (D × D)) (g_saved_visits : List D → Option D) (g_sooner_of : List D → Option D) (g_law_draw : List D → Option (D × D)) (g_joined_visits : List D → Option D) (g_plain_visits : List D → Option D) (g_done_many : List D → Option D) (g_turns_after : List D → Option D) (g_plain_days : List D → Option D) (g_marks_after : List D → Option D) (g_next_due : List D → Option D) (g_due_on : List D → Option D) (g_plain_many : List D → Option D) (g_marks_all : List D → Option D) (g_stand_many : List D → Option D) (g_all_due : List D → Option D) (g_round_of : List D → Option D) (g_law_any : List D → Option (D × D)) : FS := sSeq (m_law_right_1 g_law_are_marks_right g_saved_visits g_sooner_of g_law_draw g_joined_visits g_plain_visits g_done_many g_turns_after g_plain_days g_marks_after g_next_due g_due_on g_plain_many g_marks_all g_stand_many g_all_due g_round_of g_law_any) (b_law_right_2 g_law_are_marks_right g_saved_visits g_sooner_of g_law_draw g_joined_visits g_plain_visits g_done_many g_turns_after g_plain_days g_marks_after g_next_due g_due_on g_plain_many g_marks_all g_stand_many g_all_due g_round_of g_law_any)
noncomputable def b_law_right_0 (g_law_are_marks_right : List D → Option (D × D)) (g_saved_visits : List D → Option D) (g_sooner_of : List D → Option D) (g_law_draw : List D → Option (D × D)) (g_joined_visits : List D → Option D) (g_plain_visits : List D → Option D) (g_done_many : List D → Option D) (g_turns_after : List D → Option D) (g_plain_days : List D → Option D) (g_marks_after : List D → Option D) (g_next_due : List D → Option D) (g_due_on : List D → Option D) (g_plain_many : List D → Option D) (g_marks_all : List D → Option D) (g_stand_many : List D → Option D) (g_all_due : List D → Option D) (g_round_of : List D → Option D) (g_law_any : List D → Option (D × D)) : FS := sSeq (m_law_right_0 g_law_are_marks_right g_saved_visits g_sooner_of g_law_draw g_joined_visits g_plain_visits g_done_many g_turns_after g_plain_days g_marks_after g_next_due g_due_on g_plain_many g_marks_all g_stand_many g_all_due g_round_of g_law_any) (b_law_right_1 g_law_are_marks_right g_saved_visits g_sooner_of g_law_draw g_joined_visits g_plain_visits g_done_many g_turns_after g_plain_days g_marks_after g_next_due g_due_on g_plain_many g_marks_all g_stand_many g_all_due g_round_of g_law_any)
noncomputable def m_law_right (g_law_are_marks_right : List D → Option (D × D)) (g_saved_visits : List D → Option D) (g_sooner_of : List D → Option D) (g_law_draw : List D → Option (D × D)) (g_joined_visits : List D → Option D) (g_plain_visits : List D → Option D) (g_done_many : List D → Option D) (g_turns_after : List D → Option D) (g_plain_days : List D → Option D) (g_marks_after : List D → Option D) (g_next_due : List D → Option D) (g_due_on : List D → Option D) (g_plain_many : List D → Option D) (g_marks_all : List D → Option D) (g_stand_many : List D → Option D) (g_all_due : List D → Option D) (g_round_of : List D → Option D) (g_law_any : List D → Option (D × D)) : FS := (sSeq (sSet 1 (mCall gTupOf (maCons (mLc [13] (miOf giRg1 (maCons (m2 gAdd (mP (eC (.int 1))) (mIo 2 0 g_law_draw (mhHole (maCons (mP (eC (.int 4))) maNil)))) maNil)) (bbName 13) mTrue (m2 gAdd (mP (eC (.int 2))) (mIo 2 0 g_law_draw (mhHole (maCons (mIo 2 0 g_law_any (mhHole (maCons (mP (eLst (aCons (eC (.int 5)) (aCons (eC (.int 12)) aNil)))) maNil))) maNil))))) maNil)))
  (sSeq (sPar 2 3 (mP (eCall gTupOf (aCons (eLc [11] (iSelf (eVar 1)) (bName 11) bTrue (eTup (aCons (eFrz (eVar 11)) (aCons (eC (.int 0)) aNil)))) aNil))) (mIo 2 0 g_law_draw (mhHole (maCons (mP (eC (.int 200))) maNil))))
  (sSeq (sSet 4 (mP (eFn 1 g_round_of (aCons (eVar 1) aNil))))
  (sSeq (sIf (mT (bOr (tst (e2 cmpNe (eFn 1 g_all_due (aCons (eVar 2) aNil)) (eVar 4))) (tst (e2 cmpNe (eFn 2 g_stand_many (aCons (eVar 1) (aCons (eVar 3) aNil))) (e2 gFdiv (eVar 3) (eVar 4)))))) (sRet (mP (eC (.bool false)))) sNext)
  (sSeq (sSet 5 (mP (eFn 2 g_marks_all (aCons (eVar 1) (aCons (e2 gAdd (eVar 3) (eC (.int 1))) aNil)))))
  (sSeq (sSet 6 (mP (eLc [14] (iSelf (eVar 5)) (bName 14) bTrue (eCall gTupOf (aCons (eLc [15, 16] (iOf giEnum (aCons (eVar 14) aNil)) (bTup (bCons (bName 15) (bCons (bName 16) bNil))) (tst (e2 cmpEq (eVar 16) (eC (.int 0)))) (eFrz (eVar 15))) aNil)))))
  (sSeq (sIf (mT (tst (e2 cmpNe (eFn 2 g_plain_visits (aCons (eVar 2) (aCons (eVar 3) aNil))) (eCall gTupOf (aCons (eLc [7] (iOf giRg2 (aCons (eC (.int 1)) (aCons (e2 gAdd (eVar 3) (eC (.int 1))) aNil))) (bName 7) (tst (e2 cmpNe (e2 gIx (eVar 6) (eVar 7)) (eTup aNil))) (eFrz (eVar 7))) aNil))))) (sRet (mP (eC (.bool false)))) sNext)
  (sSeq (sIf (mT (tst (e2 cmpNe (eFn 2 g_plain_many (aCons (eVar 2) (aCons (eVar 3) aNil))) (eCall gLen (aCons (eLc [7] (iOf giRg2 (aCons (eC (.int 1)) (aCons (e2 gAdd (eVar 3) (eC (.int 1))) aNil))) (bName 7) (tst (e2 cmpNe (e2 gIx (eVar 6) (eVar 7)) (eTup aNil))) (eFrz (eVar 7))) aNil))))) (sRet (mP (eC (.bool false)))) sNext)
  (sSeq (sSet 7 (m2 gAdd (mP (eC (.int 1))) (mIo 2 0 g_law_draw (mhHole (maCons (mP (eC (.int 900))) maNil)))))
  (sSeq (sIf (mT (tst (e2 cmpNe (eFn 2 g_due_on (aCons (eVar 2) (aCons (eVar 7) aNil))) (eCall gTupOf (aCons (eLc [15, 16] (iOf giEnum (aCons (eFn 2 g_marks_after (aCons (eVar 1) (aCons (eVar 7) aNil))) aNil)) (bTup (bCons (bName 15) (bCons (bName 16) bNil))) (tst (e2 cmpEq (eVar 16) (eC (.int 0)))) (eFrz (eVar 15))) aNil))))) (sRet (mP (eC (.bool false)))) sNext)
  (sSeq (sAsg (bTup (bCons (mbName 8) (bCons (mbName 9) bNil))) (mP (eFn 2 g_next_due (aCons (eVar 2) (aCons (eVar 7) aNil)))))
  (sSeq (sIf (mT (bOr (tst (e2 cmpNe (eVar 9) (eCall gTupOf (aCons (eLc [15, 16] (iOf giEnum (aCons (eFn 2 g_marks_after (aCons (eVar 1) (aCons (eVar 8) aNil))) aNil)) (bTup (bCons (bName 15) (bCons (bName 16) bNil))) (tst (e2 cmpEq (eVar 16) (eC (.int 0)))) (eFrz (eVar 15))) aNil)))) (tst (e2 cmpEq (eVar 9) (eTup aNil))))) (sRet (mP (eC (.bool false)))) sNext)
  (sSeq (sIf (mT (tst (eCall gAny (aCons (eLc [17] (iOf giRg2 (aCons (e2 gAdd (eVar 7) (eC (.int 1))) (aCons (eVar 8) aNil))) (bName 17) bTrue (e2 cmpIn (eC (.int 0)) (eFn 2 g_marks_after (aCons (eVar 1) (aCons (eVar 17) aNil))))) aNil)))) (sRet (mP (eC (.bool false)))) sNext)
  (sSeq (sIf (mT (tst (e2 cmpNe (eLc [14] (iSelf (eFn 2 g_plain_days (aCons (eVar 2) (aCons (eVar 3) aNil)))) (bName 14) bTrue (eCall gLen (aCons (eVar 14) aNil))) (eLc [18, 19] (iSelf (eFn 2 g_turns_after (aCons (eVar 1) (aCons (eVar 3) aNil)))) (bTup (bCons (bName 18) (bCons (bName 19) bNil))) bTrue (eFrz (eVar 18)))))) (sRet (mP (eC (.bool false)))) sNext)
  (sSeq (sIf (mT (tst (e2 cmpNe (eFn 2 g_done_many (aCons (eVar 2) (aCons (eVar 3) aNil))) (eCall gTupOf (aCons (eLc [18, 19] (iSelf (eFn 2 g_turns_after (aCons (eVar 1) (aCons (eVar 3) aNil)))) (bTup (bCons (bName 18) (bCons (bName 19) bNil))) bTrue (eFrz (eVar 18))) aNil))))) (sRet (mP (eC (.bool false)))) sNext)
  (sSeq (sIf (mT (tst (e2 cmpNe (eCall gTupOf (aCons (eLc [20] (iSelf (eFn 2 g_joined_visits (aCons (eVar 2) (aCons (eVar 3) aNil)))) (bName 20) bTrue (eFrz (e2 gIx (eVar 20) (eC (.int 0))))) aNil)) (eFn 2 g_plain_visits (aCons (eVar 2) (aCons (eVar 3) aNil)))))) (sRet (mP (eC (.bool false)))) sNext)
  (sSeq (sSet 10 (mIo 2 0 g_law_draw (mhHole (maCons (mP (eC (.int 1001))) maNil))))
  (sSeq (sSet 6 (mP (eLst aNil)))
  (sSeq (sFor (miSelf (mLend 1)) (bbName 11) (sSeq (sSet 12 (mP (eLc [7] (iOf giRg2 (aCons (eC (.int 1)) (aCons (e2 gAdd (eVar 11) (eC (.int 1))) aNil))) (bName 7) (tst (e2 cmpGe (e2 gMul (eVar 7) (eVar 10)) (e2 gMul (eC (.int 100)) (eVar 11)))) (eFrz (eVar 7)))))
  (sExpr (mApp 6 (mP (eFrz (eIf (tst (e2 cmpNe (eVar 12) (eLst aNil))) (e2 gIx (eVar 12) (eC (.int 0))) (eVar 11))))))))
  (sSeq (sIf (mT (tst (e2 cmpNe (eFn 3 g_sooner_of (aCons (eVar 2) (aCons (eVar 3) (aCons (eVar 10) aNil)))) (eCall gTupOf (aCons (eVar 6) aNil))))) (sRet (mP (eC (.bool false)))) sNext)
  (sRet (mAndV (mP (e2 cmpEq (eFn 2 g_saved_visits (aCons (eVar 2) (aCons (eVar 3) aNil))) (eC (.int 0)))) (mIo 3 0 g_law_are_marks_right (mhHole (maCons (mLend 1) (maCons (mLend 4) maNil))))))))))))))))))))))))))
theorem e_law_right (g_law_are_marks_right : List D → Option (D × D)) (g_saved_visits : List D → Option D) (g_sooner_of : List D → Option D) (g_law_draw : List D → Option (D × D)) (g_joined_visits : List D → Option D) (g_plain_visits : List D → Option D) (g_done_many : List D → Option D) (g_turns_after : List D → Option D) (g_plain_days : List D → Option D) (g_marks_after : List D → Option D) (g_next_due : List D → Option D) (g_due_on : List D → Option D) (g_plain_many : List D → Option D) (g_marks_all : List D → Option D) (g_stand_many : List D → Option D) (g_all_due : List D → Option D) (g_round_of : List D → Option D) (g_law_any : List D → Option (D × D)) : m_law_right g_law_are_marks_right g_saved_visits g_sooner_of g_law_draw g_joined_visits g_plain_visits g_done_many g_turns_after g_plain_days g_marks_after g_next_due g_due_on g_plain_many g_marks_all g_stand_many g_all_due g_round_of g_law_any = b_law_right_0 g_law_are_marks_right g_saved_visits g_sooner_of g_law_draw g_joined_visits g_plain_visits g_done_many g_turns_after g_plain_days g_marks_after g_next_due g_due_on g_plain_many g_marks_all g_stand_many g_all_due g_round_of g_law_any := rfl
theorem F_law_right {f : Addr} {fd : FuncData} (F : Fun K "_law_right" "_law_right" s_law_right f fd) (hb : L2.Binds K fd ["hand"] []) (hm : mg "_law_right" = some (.ref f)) (z_tuple : mg "tuple" = none) (z_range : mg "range" = none) (z_len : mg "len" = none) (z_any : mg "any" = none) (z_enumerate : mg "enumerate" = none) {g_law_are_marks_right : List D → Option (D × D)} (F_law_are_marks_right : FnD P w K mg base "_law_are_marks_right" 10 (spI K 3 0 g_law_are_marks_right)) {g_saved_visits : List D → Option D} (F_saved_visits : FnD P w K mg base "saved_visits" 7 (spP K 2 g_saved_visits)) {g_sooner_of : List D → Option D} (F_sooner_of : FnD P w K mg base "sooner_of" 5 (spP K 3 g_sooner_of)) {g_law_draw : List D → Option (D × D)} (F_law_draw : FnD P w K mg base "_law_draw" 1 (spI K 2 0 g_law_draw)) {g_joined_visits : List D → Option D} (F_joined_visits : FnD P w K mg base "joined_visits" 5 (spP K 2 g_joined_visits)) {g_plain_visits : List D → Option D} (F_plain_visits : FnD P w K mg base "plain_visits" 6 (spP K 2 g_plain_visits)) {g_done_many : List D → Option D} (F_done_many : FnD P w K mg base "done_many" 6 (spP K 2 g_done_many)) {g_turns_after : List D → Option D} (F_turns_after : FnD P w K mg base "turns_after" 7 (spP K 2 g_turns_after)) {g_plain_days : List D → Option D} (F_plain_days : FnD P w K mg base "plain_days" 5 (spP K 2 g_plain_days)) {g_marks_after : List D → Option D} (F_marks_after : FnD P w K mg base "marks_after" 7 (spP K 2 g_marks_after)) {g_next_due : List D → Option D} (F_next_due : FnD P w K mg base "next_due" 5 (spP K 2 g_next_due)) {g_due_on : List D → Option D} (F_due_on : FnD P w K mg base "due_on" 5 (spP K 2 g_due_on)) {g_plain_many : List D → Option D} (F_plain_many : FnD P w K mg base "plain_many" 5 (spP K 2 g_plain_many)) {g_marks_all : List D → Option D} (F_marks_all : FnD P w K mg base "marks_all" 8 (spP K 2 g_marks_all)) {g_stand_many : List D → Option D} (F_stand_many : FnD P w K mg base "stand_many" 8 (spP K 2 g_stand_many)) {g_all_due : List D → Option D} (F_all_due : FnD P w K mg base "all_due" 5 (spP K 1 g_all_due)) {g_round_of : List D → Option D} (F_round_of : FnD P w K mg base "round_of" 7 (spP K 1 g_round_of)) {g_law_any : List D → Option (D × D)} (F_law_any : FnD P w K mg base "_law_any" 2 (spI K 2 0 g_law_any))
    {g : List D → Option (D × D)} (law : ∀ dpre d dpost r d', dpre.length = 0 → dpre.length + 1 + dpost.length = 1 → g (dpre ++ d :: dpost) = some (r, d') → m_law_right g_law_are_marks_right g_saved_visits g_sooner_of g_law_draw g_joined_visits g_plain_visits g_done_many g_turns_after g_plain_days g_marks_after g_next_due g_due_on g_plain_many g_marks_all g_stand_many g_all_due g_round_of g_law_any (seI 0 r d') (envI dpre d dpost 20)) : FnD P w K mg base "_law_right" 11 (spI K 1 0 g) := by
  refine fnI (k := 10) 0 F sc_law_right hb hm (fun cdv A outer s H E hr => ?_) law
  have hu := hu64 hr
  have hu1 := hu_of hr
  have nd := sc_law_right.nd
  exact ⟨_, (ss_cons (ss_set (i := 1) nd (mm_ct c_tuple z_tuple (ma_cons (mv_mm (mm_lc (own := [("wheel", 13)]) nd (mi_of (it_rg1 z_range) (ma_cons (mv_mm (mm_op o_add (mv_pf pk_int) (mv_mm (mm_io F_law_draw (hr.mono (by decide)) (mh_hole (i := 0) (ma_cons (mv_pf pk_int) ma_nil)))))) ma_nil)) (blkOk_by (own := [("wheel", 13)]) (N := N_law_right) (sc := defScope s_law_right) (by decide +kernel)) (fun _ _ _ _ _ => (bt_name 13 nd)) (fun _ _ _ _ _ => mts_nil) (fun _ _ _ _ _ => (mm_op o_add (mv_pf pk_int) (mv_mm (mm_io F_law_draw (hr.mono (by decide)) (mh_hole (i := 0) (ma_cons (mv_mm (mm_io F_law_any (hr.mono (by decide)) (mh_hole (i := 0) (ma_cons (mv_pf (pf_lst (an_cons pk_int (an_cons pk_int an_nil)))) ma_nil)))) ma_nil)))))))) ma_nil)))
    (ss_cons (ss_par (i := 2) (j := 3) nd (mm_pf (pf_ct c_tuple z_tuple (ar_cons (PF.pp (pf_lc (own := [("teeth", 11)]) nd (pi_self (pv' 1)) (blkOk_by (own := [("teeth", 11)]) (N := N_law_right) (sc := defScope s_law_right) (by decide +kernel)) (fun _ _ _ _ _ => (gt_name 11 nd)) (fun _ _ _ _ _ => ts_nil) (fun _ _ _ _ _ => (pf_tup (an_cons (PP.frz (pv' 11)) (an_cons pk_int an_nil)))))) ar_nil))) (mm_io F_law_draw (hr.mono (by decide)) (mh_hole (i := 0) (ma_cons (mv_pf pk_int) ma_nil))))
    (ss_cons (ss_set (i := 4) nd (mm_pf (pf_fn F_round_of (hr.mono (by decide)) (ar_cons (pv' 1) ar_nil))))
    (ss_cons (ss_if (mt_pt (PWt.pt (tw_or (tt_cmp (o_ne hu) (PF.pp (pf_fn F_all_due (hr.mono (by decide)) (ar_cons (pv' 2) ar_nil))) (pv' 4)) (tw_or1 (tt_cmp (o_ne hu) (PF.pp (pf_fn F_stand_many (hr.mono (by decide)) (ar_cons (pv' 1) (ar_cons (pv' 3) ar_nil)))) (PF.pp (pf_op o_fdiv (pv' 3) (pv' 4)))))))) (ss_one (ss_ret (mm_pf pk_bl))) ss_nil)
    (ss_cons (ss_set (i := 5) nd (mm_pf (pf_fn F_marks_all (hr.mono (by decide)) (ar_cons (pv' 1) (ar_cons (PF.pp (pf_op o_add (pv' 3) (PF.pp pk_int))) ar_nil)))))
    (ss_cons (ss_set (i := 6) nd (mm_pf (pf_lc (own := [("row", 14)]) nd (pi_self (pv' 5)) (blkOk_by (own := [("row", 14)]) (N := N_law_right) (sc := defScope s_law_right) (by decide +kernel)) (fun _ _ _ _ _ => (gt_name 14 nd)) (fun _ _ _ _ _ => ts_nil) (fun _ _ _ _ _ => (pf_ct c_tuple z_tuple (ar_cons (PF.pp (pf_lc (own := [("at", 15), ("mark", 16)]) nd (pi_of (it_enum z_enumerate) (ar_cons (pv' 14) ar_nil)) (blkOk_in (blkOk_by (own := [("at", 15), ("mark", 16)]) (N := N_law_right) (by decide +kernel))) (fun _ _ _ _ _ => (gt_tup (gs_cons (gt_name 15 nd) (gs_cons (gt_name 16 nd) gs_nil)) (bl_cons (bl_cons bl_nil)))) (fun _ _ _ _ _ => (ts_one (tt_cmp (o_eq hu) (pv' 16) (PF.pp pk_int)))) (fun _ _ _ _ _ => (PP.frz (pv' 15))))) ar_nil))))))
    (ss_cons (ss_if (mt_pt (tt_cmp (o_ne hu) (PF.pp (pf_fn F_plain_visits (hr.mono (by decide)) (ar_cons (pv' 2) (ar_cons (pv' 3) ar_nil)))) (PF.pp (pf_ct c_tuple z_tuple (ar_cons (PF.pp (pf_lc (own := [("day", 7)]) nd (pi_of (it_rg2 z_range) (ar_cons (PF.pp pk_int) (ar_cons (PF.pp (pf_op o_add (pv' 3) (PF.pp pk_int))) ar_nil))) (blkOk_by (own := [("day", 7)]) (N := N_law_right) (sc := defScope s_law_right) (by decide +kernel)) (fun _ _ _ _ _ => (gt_name 7 nd)) (fun _ _ _ _ _ => (ts_one (tt_cmp (o_ne hu) (pp_ix (pv' 6) (pv' 7)) (PF.pp (pf_tup an_nil))))) (fun _ _ _ _ _ => (PP.frz (pv' 7))))) ar_nil))))) (ss_one (ss_ret (mm_pf pk_bl))) ss_nil)
    (ss_cons (ss_if (mt_pt (tt_cmp (o_ne hu) (PF.pp (pf_fn F_plain_many (hr.mono (by decide)) (ar_cons (pv' 2) (ar_cons (pv' 3) ar_nil)))) (PF.pp (pf_cb (c_len) z_len (ar_cons (PF.pp (pf_lc (own := [("day", 7)]) nd (pi_of (it_rg2 z_range) (ar_cons (PF.pp pk_int) (ar_cons (PF.pp (pf_op o_add (pv' 3) (PF.pp pk_int))) ar_nil))) (blkOk_by (own := [("day", 7)]) (N := N_law_right) (sc := defScope s_law_right) (by decide +kernel)) (fun _ _ _ _ _ => (gt_name 7 nd)) (fun _ _ _ _ _ => (ts_one (tt_cmp (o_ne hu) (pp_ix (pv' 6) (pv' 7)) (PF.pp (pf_tup an_nil))))) (fun _ _ _ _ _ => (PP.frz (pv' 7))))) ar_nil))))) (ss_one (ss_ret (mm_pf pk_bl))) ss_nil)
    (ss_cons (ss_set (i := 7) nd (mm_op o_add (mv_pf pk_int) (mv_mm (mm_io F_law_draw (hr.mono (by decide)) (mh_hole (i := 0) (ma_cons (mv_pf pk_int) ma_nil))))))
    (ss_cons (ss_if (mt_pt (tt_cmp (o_ne hu) (PF.pp (pf_fn F_due_on (hr.mono (by decide)) (ar_cons (pv' 2) (ar_cons (pv' 7) ar_nil)))) (PF.pp (pf_ct c_tuple z_tuple (ar_cons (PF.pp (pf_lc (own := [("at", 15), ("mark", 16)]) nd (pi_of (it_enum z_enumerate) (ar_cons (PF.pp (pf_fn F_marks_after (hr.mono (by decide)) (ar_cons (pv' 1) (ar_cons (pv' 7) ar_nil)))) ar_nil)) (blkOk_by (own := [("at", 15), ("mark", 16)]) (N := N_law_right) (sc := defScope s_law_right) (by decide +kernel)) (fun _ _ _ _ _ => (gt_tup (gs_cons (gt_name 15 nd) (gs_cons (gt_name 16 nd) gs_nil)) (bl_cons (bl_cons bl_nil)))) (fun _ _ _ _ _ => (ts_one (tt_cmp (o_eq hu) (pv' 16) (PF.pp pk_int)))) (fun _ _ _ _ _ => (PP.frz (pv' 15))))) ar_nil))))) (ss_one (ss_ret (mm_pf pk_bl))) ss_nil)
    (ss_cons (ss_asg (mm_pf (pf_fn F_next_due (hr.mono (by decide)) (ar_cons (pv' 2) (ar_cons (pv' 7) ar_nil)))) (mg_tup (mgs_cons (mg_name 8 nd) (mgs_cons (mg_name 9 nd) mgs_nil)) (bl_cons (bl_cons bl_nil))))
    (ss_cons (ss_if (mt_pt (PWt.pt (tw_or (tt_cmp (o_ne hu) (pv' 9) (PF.pp (pf_ct c_tuple z_tuple (ar_cons (PF.pp (pf_lc (own := [("at", 15), ("mark", 16)]) nd (pi_of (it_enum z_enumerate) (ar_cons (PF.pp (pf_fn F_marks_after (hr.mono (by decide)) (ar_cons (pv' 1) (ar_cons (pv' 8) ar_nil)))) ar_nil)) (blkOk_by (own := [("at", 15), ("mark", 16)]) (N := N_law_right) (sc := defScope s_law_right) (by decide +kernel)) (fun _ _ _ _ _ => (gt_tup (gs_cons (gt_name 15 nd) (gs_cons (gt_name 16 nd) gs_nil)) (bl_cons (bl_cons bl_nil)))) (fun _ _ _ _ _ => (ts_one (tt_cmp (o_eq hu) (pv' 16) (PF.pp pk_int)))) (fun _ _ _ _ _ => (PP.frz (pv' 15))))) ar_nil)))) (tw_or1 (tt_cmp (o_eq hu) (pv' 9) (PF.pp (pf_tup an_nil))))))) (ss_one (ss_ret (mm_pf pk_bl))) ss_nil)
    (ss_cons (ss_if (mt_pt (tt_val (PF.pp (pf_cb (c_any) z_any (ar_cons (PF.pp (pf_lc (own := [("one", 17)]) nd (pi_of (it_rg2 z_range) (ar_cons (PF.pp (pf_op o_add (pv' 7) (PF.pp pk_int))) (ar_cons (pv' 8) ar_nil))) (blkOk_by (own := [("one", 17)]) (N := N_law_right) (sc := defScope s_law_right) (by decide +kernel)) (fun _ _ _ _ _ => (gt_name 17 nd)) (fun _ _ _ _ _ => ts_nil) (fun _ _ _ _ _ => (pf_cmp (o_in hu) (PF.pp pk_int) (PF.pp (pf_fn F_marks_after (hr.mono (by decide)) (ar_cons (pv' 1) (ar_cons (pv' 17) ar_nil)))))))) ar_nil))))) (ss_one (ss_ret (mm_pf pk_bl))) ss_nil)
    (ss_cons (ss_if (mt_pt (tt_cmp (o_ne hu) (PF.pp (pf_lc (own := [("row", 14)]) nd (pi_self (PF.pp (pf_fn F_plain_days (hr.mono (by decide)) (ar_cons (pv' 2) (ar_cons (pv' 3) ar_nil))))) (blkOk_by (own := [("row", 14)]) (N := N_law_right) (sc := defScope s_law_right) (by decide +kernel)) (fun _ _ _ _ _ => (gt_name 14 nd)) (fun _ _ _ _ _ => ts_nil) (fun _ _ _ _ _ => (pf_cb (c_len) z_len (ar_cons (pv' 14) ar_nil))))) (PF.pp (pf_lc (own := [("turns", 18), ("rest", 19)]) nd (pi_self (PF.pp (pf_fn F_turns_after (hr.mono (by decide)) (ar_cons (pv' 1) (ar_cons (pv' 3) ar_nil))))) (blkOk_by (own := [("turns", 18), ("rest", 19)]) (N := N_law_right) (sc := defScope s_law_right) (by decide +kernel)) (fun _ _ _ _ _ => (gt_tup (gs_cons (gt_name 18 nd) (gs_cons (gt_name 19 nd) gs_nil)) (bl_cons (bl_cons bl_nil)))) (fun _ _ _ _ _ => ts_nil) (fun _ _ _ _ _ => (PP.frz (pv' 18))))))) (ss_one (ss_ret (mm_pf pk_bl))) ss_nil)
    (ss_cons (ss_if (mt_pt (tt_cmp (o_ne hu) (PF.pp (pf_fn F_done_many (hr.mono (by decide)) (ar_cons (pv' 2) (ar_cons (pv' 3) ar_nil)))) (PF.pp (pf_ct c_tuple z_tuple (ar_cons (PF.pp (pf_lc (own := [("turns", 18), ("rest", 19)]) nd (pi_self (PF.pp (pf_fn F_turns_after (hr.mono (by decide)) (ar_cons (pv' 1) (ar_cons (pv' 3) ar_nil))))) (blkOk_by (own := [("turns", 18), ("rest", 19)]) (N := N_law_right) (sc := defScope s_law_right) (by decide +kernel)) (fun _ _ _ _ _ => (gt_tup (gs_cons (gt_name 18 nd) (gs_cons (gt_name 19 nd) gs_nil)) (bl_cons (bl_cons bl_nil)))) (fun _ _ _ _ _ => ts_nil) (fun _ _ _ _ _ => (PP.frz (pv' 18))))) ar_nil))))) (ss_one (ss_ret (mm_pf pk_bl))) ss_nil)
    (ss_cons (ss_if (mt_pt (tt_cmp (o_ne hu) (PF.pp (pf_ct c_tuple z_tuple (ar_cons (PF.pp (pf_lc (own := [("visit", 20)]) nd (pi_self (PF.pp (pf_fn F_joined_visits (hr.mono (by decide)) (ar_cons (pv' 2) (ar_cons (pv' 3) ar_nil))))) (blkOk_by (own := [("visit", 20)]) (N := N_law_right) (sc := defScope s_law_right) (by decide +kernel)) (fun _ _ _ _ _ => (gt_name 20 nd)) (fun _ _ _ _ _ => ts_nil) (fun _ _ _ _ _ => (PP.frz (pp_ix (pv' 20) (PF.pp pk_int)))))) ar_nil))) (PF.pp (pf_fn F_plain_visits (hr.mono (by decide)) (ar_cons (pv' 2) (ar_cons (pv' 3) ar_nil)))))) (ss_one (ss_ret (mm_pf pk_bl))) ss_nil)
    (ss_cons (ss_set (i := 10) nd (mm_io F_law_draw (hr.mono (by decide)) (mh_hole (i := 0) (ma_cons (mv_pf pk_int) ma_nil))))
    (ss_cons (ss_set (i := 6) nd (mm_pf (pf_lst an_nil)))
    (ss_cons (ss_for (mi_self (mv_var 1)) (bg_name 11 nd) (ss_cons (ss_setLc (i := 12) (own := [("day", 7)]) nd (pi_of (it_rg2 z_range) (ar_cons (PF.pp pk_int) (ar_cons (PF.pp (pf_op o_add (pv' 11) (PF.pp pk_int))) ar_nil))) (blkOk_by (own := [("day", 7)]) (N := N_law_right) (sc := defScope s_law_right) (by decide +kernel)) (fun _ _ _ _ _ => (gt_name 7 nd)) (fun _ _ _ _ _ => (ts_one (tt_cmp (o_ge hu) (PF.pp (pf_op o_mul (pv' 7) (pv' 10))) (PF.pp (pf_op o_mul (PF.pp pk_int) (pv' 11)))))) (fun _ _ _ _ _ => (PP.frz (pv' 7))) (sw_true rfl rfl rfl (by decide +kernel)))
    (ss_one (ss_expr (mm_app (i := 6) (mm_pf (PP.frz (pp_if (tt_cmp (o_ne hu) (pv' 12) (PF.pp (pf_lst an_nil))) (pp_ix (pv' 12) (PF.pp pk_int)) (pv' 11)))))))))
    (ss_cons (ss_if (mt_pt (tt_cmp (o_ne hu) (PF.pp (pf_fn F_sooner_of (hr.mono (by decide)) (ar_cons (pv' 2) (ar_cons (pv' 3) (ar_cons (pv' 10) ar_nil))))) (PF.pp (pf_ct c_tuple z_tuple (ar_cons (pv' 6) ar_nil))))) (ss_one (ss_ret (mm_pf pk_bl))) ss_nil)
    (ss_one (ss_ret (mm_and (mm_pf (pf_cmp (o_eq hu) (PF.pp (pf_fn F_saved_visits (hr.mono (by decide)) (ar_cons (pv' 2) (ar_cons (pv' 3) ar_nil)))) (PF.pp pk_int))) (mm_one (mm_io F_law_are_marks_right (hr.mono (by decide)) (mh_hole (i := 0) (ma_cons (mv_var 1) (ma_cons (mv_var 4) ma_nil))))))))))))))))))))))))))))⟩
abbrev s_law : Stmt := topS 61
abbrev N_law : List Str := ["script", "hand", "turn"]
theorem sc_law : FnScope N_law ["script"] (defScope s_law) := ⟨rfl, rfl, rfl, by decide +kernel, rfl, by decide +kernel, by decide +kernel⟩
noncomputable def m_law (g_law_right : List D → Option (D × D)) (g_law_hand : List D → Option D) : FS := (sSeq (sSet 1 (mP (eFn 1 g_law_hand (aCons (eVar 0) aNil))))
  (sRet (mCall gAll (maCons (mLc [2] (miOf giRg1 (maCons (mP (eC (.int 3))) maNil)) (bbName 2) mTrue (mIo 1 1 g_law_right (mhHole maNil))) maNil))))
theorem F_law {f : Addr} {fd : FuncData} (F : Fun K "law" "law" s_law f fd) (hb : L2.Binds K fd ["script"] []) (hm : mg "law" = some (.ref f)) (z_range : mg "range" = none) (z_all : mg "all" = none) {g_law_right : List D → Option (D × D)} (F_law_right : FnD P w K mg base "_law_right" 11 (spI K 1 0 g_law_right)) {g_law_hand : List D → Option D} (F_law_hand : FnD P w K mg base "_law_hand" 1 (spP K 1 g_law_hand))
    {g : List D → Option D} (law : ∀ ds d, ds.length = 1 → g ds = some d → m_law g_law_right g_law_hand (seP d) (envP ds 2)) : FnD P w K mg base "law" 12 (spP K 1 g) := by
  refine fnP (k := 11) F sc_law hb hm (fun cdv A outer s H E hr => ?_) law
  have hu := hu64 hr
  have hu1 := hu_of hr
  have nd := sc_law.nd
  exact ⟨_, (ss_cons (ss_set (i := 1) nd (mm_pf (pf_fn F_law_hand (hr.mono (by decide)) (ar_cons (pv' 0) ar_nil))))
    (ss_one (ss_ret (mm_cb (c_all) z_all (ma_cons (mv_mm (mm_lc (own := [("turn", 2)]) nd (mi_of (it_rg1 z_range) (ma_cons (mv_pf pk_int) ma_nil)) (blkOk_by (own := [("turn", 2)]) (N := N_law) (sc := defScope s_law) (by decide +kernel)) (fun _ _ _ _ _ => (bt_name 2 nd)) (fun _ _ _ _ _ => mts_nil) (fun _ _ _ _ _ => (mm_io F_law_right (hr.mono (by decide)) (mh_hole (i := 1) ma_nil))))) ma_nil)))))⟩
end
end Gen

set_option Elab.async false
set_option linter.all false
set_option maxRecDepth 100000
set_option maxHeartbeats 4000000
/-! K97a: what the checks, gcd and the belts' rows answer. -/
namespace K97
open PySem PySem.Spec PyProof.Rows L2 Pd Gen
abbrev tI (xs : List Int) : D := .tuple (xs.map .int)
theorem pow_10 (k : Nat) (h : k ≤ 1000) : gPow (.int 10) (.int k) = some (.int (10 ^ k)) := by
  have h1 : cPow 10 k = true := by
    unfold cPow
    simp only [Bool.and_eq_true, decide_eq_true_eq]
    refine ⟨⟨by omega, by omega⟩, by decide⟩
  show gI2 cPow (fun i j => i ^ j.toNat) (.int 10) (.int k) = _
  unfold gI2
  simp only [h1, if_true]
  simp
@[simp] theorem isa_int {i : Int} : gIsa "int" (.int i) = some (.bool true) := rfl
@[simp] theorem isa_int_bool {i : Int} : gIsa "bool" (.int i) = some (.bool false) := rfl
@[simp] theorem isa_tup {xs : List D} : gIsa "tuple" (.tuple xs) = some (.bool true) := rfl
@[simp] theorem isa_str {x : Str} : gIsa "str" (.str x) = some (.bool true) := rfl
@[simp] theorem isa_bool {x : Bool} : gIsa "bool" (.bool x) = some (.bool true) := rfl

/-! is_integer -/
noncomputable def c_is_integer := gOf (fun i : Int => [PyData.int i]) (fun _ => True) (fun _ => .bool true)
@[simp] theorem q_is_integer {i : Int} : c_is_integer [.int i] = some (.bool true) := gOf_eq (fun _ _ _ => rfl) (a := i) trivial
theorem l_is_integer : ∀ ds d, ds.length = 1 → c_is_integer ds = some d → m_is_integer (seP d) (envP ds 0) := by
  intro ds d _ h
  obtain ⟨i, _, rfl, rfl⟩ := gOf_inv h
  simp [m_is_integer]
/-! is_within -/
noncomputable def c_is_within := gOf (fun a : Int × Int × Int => [PyData.int a.1, .int a.2.1, .int a.2.2]) (fun a => a.2.1 ≤ a.1 ∧ a.1 ≤ a.2.2) (fun _ => .bool true)
theorem q_is_within {i lo hi : Int} (h1 : lo ≤ i) (h2 : i ≤ hi) : c_is_within [.int i, .int lo, .int hi] = some (.bool true) := gOf_eq (fun _ _ _ => rfl) (a := (i, lo, hi)) ⟨h1, h2⟩
theorem l_is_within : ∀ ds d, ds.length = 3 → c_is_within ds = some d → m_is_within c_is_integer (seP d) (envP ds 0) := by
  intro ds d _ h
  obtain ⟨⟨i, lo, hi⟩, ⟨h1, h2⟩, rfl, rfl⟩ := gOf_inv h
  simp only at h1 h2
  simp [m_is_within, h1, h2]
/-! is_row -/
noncomputable def c_is_row := gOf (fun a : List Int × Int × Int × Int => [tI a.1, .int a.2.1, .int a.2.2.1, .int a.2.2.2]) (fun a => (a.1.length : Int) = a.2.1 ∧ a.1.length ≤ 1000 ∧ ∀ x ∈ a.1, a.2.2.1 ≤ x ∧ x ≤ a.2.2.2) (fun _ => .bool true)
theorem q_is_row {xs : List Int} {n lo hi : Int} (h1 : (xs.length : Int) = n) (h2 : xs.length ≤ 1000) (h3 : ∀ x ∈ xs, lo ≤ x ∧ x ≤ hi) : c_is_row [tI xs, .int n, .int lo, .int hi] = some (.bool true) := gOf_eq (fun _ _ _ => rfl) (a := (xs, n, lo, hi)) ⟨h1, h2, h3⟩
@[simp] theorem gl_allT {α : Type} {xs : List α} : gAll [.list (xs.map fun _ => PyData.bool true)] = some (.bool true) := by
  rw [gl_all' (p := fun _ => true)]
  simp
theorem capL {n : Nat} (h : n ≤ 1000) : n ≤ cap := Nat.le_trans h (by decide)
theorem l_is_row : ∀ ds d, ds.length = 4 → c_is_row ds = some d → m_is_row c_is_within (seP d) (envP ds 1) := by
  intro ds d _ h
  obtain ⟨⟨xs, n, lo, hi⟩, ⟨h1, h2, h3⟩, rfl, rfl⟩ := gOf_inv h
  simp only at h1 h2 h3
  simp [m_is_row, h1, capL h2]
  rw [lcMap (h := fun _ => .bool true)]
  · simp
  · intro x hx
    simp [q_is_within (h3 x hx).1 (h3 x hx).2]
/-! is_some -/
noncomputable def c_is_some := gOf (fun a : List Int × Int × Int × Int × Int => [tI a.1, .int a.2.1, .int a.2.2.1, .int a.2.2.2.1, .int a.2.2.2.2]) (fun a => a.2.1 ≤ (a.1.length : Int) ∧ (a.1.length : Int) ≤ a.2.2.1 ∧ a.1.length ≤ 1000 ∧ ∀ x ∈ a.1, a.2.2.2.1 ≤ x ∧ x ≤ a.2.2.2.2) (fun _ => .bool true)
theorem q_is_some {xs : List Int} {n m lo hi : Int} (h1 : n ≤ (xs.length : Int)) (h1' : (xs.length : Int) ≤ m) (h2 : xs.length ≤ 1000) (h3 : ∀ x ∈ xs, lo ≤ x ∧ x ≤ hi) : c_is_some [tI xs, .int n, .int m, .int lo, .int hi] = some (.bool true) := gOf_eq (fun _ _ _ => rfl) (a := (xs, n, m, lo, hi)) ⟨h1, h1', h2, h3⟩
theorem l_is_some : ∀ ds d, ds.length = 5 → c_is_some ds = some d → m_is_some c_is_row (seP d) (envP ds 0) := by
  intro ds d _ h
  obtain ⟨⟨xs, n, m, lo, hi⟩, ⟨h1, h1', h2, h3⟩, rfl, rfl⟩ := gOf_inv h
  simp only at h1 h1' h2 h3
  simp [m_is_some, h1, h1', q_is_row rfl h2 h3]
/-! belts -/
structure Belt (bs : List Int) : Prop where
  ne : 1 ≤ bs.length
  len : bs.length ≤ 6
  lim : ∀ b ∈ bs, 2 ≤ b ∧ b ≤ 400
noncomputable def c_is_belt := gOf (fun bs : List Int => [tI bs]) Belt (fun _ => .bool true)
theorem q_is_belt {bs : List Int} (h : Belt bs) : c_is_belt [tI bs] = some (.bool true) := gOf_eq (fun _ _ _ => rfl) (a := bs) h
theorem l_is_belt : ∀ ds d, ds.length = 1 → c_is_belt ds = some d → m_is_belt c_is_some (seP d) (envP ds 0) := by
  intro ds d _ h
  obtain ⟨bs, hb, rfl, rfl⟩ := gOf_inv h
  have h1 := hb.ne
  have h2 := hb.len
  simp [m_is_belt, q_is_some (xs := bs) (n := 1) (m := 6) (by omega) (by omega) (by omega) hb.lim]
noncomputable def c_check_belt := gOf (fun bs : List Int => [tI bs]) Belt (fun _ => .none)
theorem q_check_belt {bs : List Int} (h : Belt bs) : c_check_belt [tI bs] = some .none := gOf_eq (fun _ _ _ => rfl) (a := bs) h
theorem l_check_belt : ∀ ds d, ds.length = 1 → c_check_belt ds = some d → m_check_belt c_is_belt (seP d) (envP ds 0) := by
  intro ds d _ h
  obtain ⟨bs, hb, rfl, rfl⟩ := gOf_inv h
  simp [m_check_belt, q_is_belt hb]
structure Marks (bs ms : List Int) : Prop where
  len : ms.length = bs.length
  lim : ∀ p ∈ ms.zip bs, 0 ≤ p.1 ∧ p.1 < p.2
noncomputable def c_check_marks := gOf (fun a : List Int × List Int => [tI a.1, tI a.2]) (fun a => Belt a.1 ∧ Marks a.1 a.2) (fun _ => .none)
theorem q_check_marks {bs ms : List Int} (h : Belt bs) (h2 : Marks bs ms) : c_check_marks [tI bs, tI ms] = some .none := gOf_eq (fun _ _ _ => rfl) (a := (bs, ms)) ⟨h, h2⟩
theorem l_check_marks : ∀ ds d, ds.length = 2 → c_check_marks ds = some d → m_check_marks c_is_within c_check_belt (seP d) (envP ds 2) := by
  intro ds d _ h
  obtain ⟨⟨bs, ms⟩, ⟨hb, hm⟩, rfl, rfl⟩ := gOf_inv h
  simp only at hb hm
  have h2 := hb.len
  have hl := hm.len
  have hc : min ms.length bs.length ≤ cap := Nat.le_trans (Nat.min_le_right _ _) (capL (by omega))
  simp [m_check_marks, q_check_belt hb, hl, gi_zip, capL (show bs.length ≤ 1000 by omega)]
  rw [lcMap (h := fun _ => .bool true)]
  · simp
  · intro p hp
    have := hm.lim p hp
    simp [q_is_within this.1 (show p.1 ≤ p.2 - 1 by omega)]
noncomputable def c_check_moved := gOf (fun m : Int => [PyData.int m]) (fun m => 0 ≤ m ∧ m ≤ 100000000000000000000) (fun _ => .none)
theorem q_check_moved {m : Int} (h1 : 0 ≤ m) (h2 : m ≤ 100000000000000000000) : c_check_moved [.int m] = some .none := gOf_eq (fun _ _ _ => rfl) (a := m) ⟨h1, h2⟩
theorem l_check_moved : ∀ ds d, ds.length = 1 → c_check_moved ds = some d → m_check_moved c_is_within (seP d) (envP ds 0) := by
  intro ds d _ h
  obtain ⟨m, ⟨h1, h2⟩, rfl, rfl⟩ := gOf_inv h
  have e : gPow (.int 10) (.int 20) = some (.int 100000000000000000000) := pow_10 20 (by decide)
  simp [m_check_moved, e, q_is_within h1 h2]
/-! shared: the greatest common divisor -/
noncomputable def c_shared := gOf (fun a : Int × Int => [PyData.int a.1, .int a.2]) (fun _ => True) (fun a => .int (Int.gcd a.1 a.2))
@[simp] theorem q_shared {a b : Int} : c_shared [.int a, .int b] = some (.int (Int.gcd a b)) := gOf_eq (f := fun a : Int × Int => [PyData.int a.1, .int a.2]) (fun a b h => by
  simp only [List.cons.injEq, PyData.int.injEq, and_true] at h
  rw [h.1, h.2]) (a := (a, b)) trivial
theorem wh_shared (S : SE) (fin : Int → Prop) (hS : ∀ r : Int, S.nx [.ow (.int r), .ow (.int 0)] = fin r) : ∀ (n : Nat) (b a : Nat), b ≤ n → fin (Nat.gcd a b) →
    whM (mT (tst (e2 cmpGt (eVar 1) (eC (.int 0))))) (sPar 0 1 (mVar 1) (mP (e2 gMod (eVar 0) (eVar 1)))) (n + 1) S [.ow (.int a), .ow (.int b)]
  | n, 0, a, _, h => by
    rw [ev_wh]
    simp [hS]
    simpa using h
  | 0, b + 1, a, hn, _ => by omega
  | n + 1, b + 1, a, hn, h => by
    rw [ev_wh]
    have hb : (0 : Int) < ((b + 1 : Nat) : Int) := by omega
    have hlt : a % (b + 1) < b + 1 := Nat.mod_lt _ (by omega)
    have ih := wh_shared S fin hS n (a % (b + 1)) (b + 1) (by omega) (by
      rw [Nat.gcd_comm a (b + 1), Nat.gcd_rec (b + 1) a, Nat.gcd_comm] at h
      exact h)
    have em : ((a : Int) % ((b + 1 : Nat) : Int)) = ((a % (b + 1) : Nat) : Int) := by simp
    simp only [ev_mT, ev_tst, ev_e2, ev_var, ev_c, ev_get0, ev_getS, ev_val1, Option.bind_some, cg_ii, ev_toB, Option.map_some, ev_os, decide_eq_true hb, if_true, ev_par, ev_mvarS, ev_mvar0, fz_int, ev_mP, op_ii_mod hb, em]
    simp
    exact ih
theorem l_shared : ∀ ds d, ds.length = 2 → c_shared ds = some d → m_shared (seP d) (envP ds 0) := by
  intro ds d _ h
  obtain ⟨⟨a, b⟩, _, rfl, rfl⟩ := gOf_inv h
  have ea : (if a < 0 then -a else a) = (a.natAbs : Int) := by split <;> omega
  have eb : (if b < 0 then -b else b) = (b.natAbs : Int) := by split <;> omega
  simp [m_shared, ea, eb]
  rw [ev_while]
  exact ⟨_, wh_shared _ (fun r => r = (Int.gcd a b : Int)) (fun r => by simp) b.natAbs b.natAbs a.natAbs (Nat.le_refl _) rfl⟩
/-! marks_after, turns_after, marks_all -/
def after (bs : List Int) (m : Int) : List Int := bs.map fun b => m % b
noncomputable def c_marks_after := gOf (fun a : List Int × Int => [tI a.1, .int a.2]) (fun a => Belt a.1 ∧ 0 ≤ a.2 ∧ a.2 ≤ 100000000000000000000) (fun a => tI (after a.1 a.2))
theorem inj2 {xs ys : List Int} {a b : Int} (h : [tI xs, PyData.int a] = [tI ys, .int b]) : xs = ys ∧ a = b := by
  simp only [List.cons.injEq, PyData.int.injEq, PyData.tuple.injEq, and_true] at h
  exact ⟨ints_inj h.1, h.2⟩
theorem q_marks_after {bs : List Int} {m : Int} (h : Belt bs) (h1 : 0 ≤ m) (h2 : m ≤ 100000000000000000000) : c_marks_after [tI bs, .int m] = some (tI (after bs m)) := gOf_eq (f := fun a : List Int × Int => [tI a.1, .int a.2]) (fun a b h => by
  obtain ⟨e1, e2⟩ := inj2 h
  rw [e1, e2]) (a := (bs, m)) ⟨h, h1, h2⟩
theorem l_marks_after : ∀ ds d, ds.length = 2 → c_marks_after ds = some d → m_marks_after c_check_moved c_check_belt (seP d) (envP ds 1) := by
  intro ds d _ h
  obtain ⟨⟨bs, m⟩, ⟨hb, h1, h2⟩, rfl, rfl⟩ := gOf_inv h
  simp only at hb h1 h2
  have hl := hb.len
  simp [m_marks_after, q_check_belt hb, q_check_moved h1 h2, capL (show bs.length ≤ 1000 by omega)]
  rw [lcMap (h := fun b => .int (m % b))]
  · have e : (bs.map fun b => PyData.int (m % b)) = (after bs m).map .int := by simp [after]
    rw [e]
    simp [gl_tupL]
  · intro b hb'
    have := hb.lim b hb'
    simp [op_ii_mod (show 0 < b by omega)]
end K97

set_option Elab.async false
set_option linter.all false
set_option maxRecDepth 100000
set_option maxHeartbeats 4000000
/-! K97n: gcd, lcm, remainders (no program in sight). -/
namespace K97
/-- the program's own least common multiple of two -/
theorem lcm_two {f b : Int} (hf : 0 < f) (hb : 0 < b) : f * b / (Int.gcd f b : Int) = (Int.lcm f b : Int) := by
  rw [Int.lcm_eq_mul_div, Int.natCast_ediv, Int.natCast_mul, Int.natAbs_of_nonneg (by omega), Int.natAbs_of_nonneg (by omega)]
theorem lcm_pos {f b : Int} (hf : 0 < f) (hb : 0 < b) : 0 < (Int.lcm f b : Int) := by
  have : Int.lcm f b ≠ 0 := fun h => by
    rcases Int.lcm_eq_zero_iff.mp h with h | h <;> omega
  omega
theorem lcm_le {f b : Int} (hf : 0 < f) (hb : 0 < b) : (Int.lcm f b : Int) ≤ f * b := by
  refine Int.le_of_dvd (Int.mul_pos hf hb) (Int.coe_lcm_dvd (Int.dvd_mul_right f b) (Int.dvd_mul_left f b))
def lcmF (f : Int) (bs : List Int) : Int := bs.foldl (fun f b => (Int.lcm f b : Int)) f
theorem lcmF_cons {f b : Int} {bs : List Int} : lcmF f (b :: bs) = lcmF (Int.lcm f b : Int) bs := rfl
theorem lcmF_pos : ∀ {bs : List Int} {f : Int}, 0 < f → (∀ b ∈ bs, 0 < b) → 0 < lcmF f bs
  | [], _, h, _ => h
  | b :: bs, f, h, hb => lcmF_pos (bs := bs) (lcm_pos h (hb b List.mem_cons_self)) fun x hx => hb x (List.mem_cons_of_mem _ hx)
theorem lcmF_left : ∀ {bs : List Int} {f : Int}, f ∣ lcmF f bs
  | [], f => Int.dvd_refl f
  | b :: bs, f => Int.dvd_trans (Int.dvd_lcm_left f b) (lcmF_left (bs := bs))
theorem lcmF_mem : ∀ {bs : List Int} {f b : Int}, b ∈ bs → b ∣ lcmF f bs
  | c :: bs, f, b, h => by
    rcases List.mem_cons.mp h with rfl | h
    · exact Int.dvd_trans (Int.dvd_lcm_right f b) (lcmF_left (bs := bs))
    · exact lcmF_mem (bs := bs) h
theorem lcmF_min : ∀ {bs : List Int} {f x : Int}, f ∣ x → (∀ b ∈ bs, b ∣ x) → lcmF f bs ∣ x
  | [], _, _, h, _ => h
  | b :: bs, f, x, h, hb => lcmF_min (bs := bs) (Int.coe_lcm_dvd h (hb b List.mem_cons_self)) fun y hy => hb y (List.mem_cons_of_mem _ hy)
theorem lcmF_le : ∀ {bs : List Int} {f M : Int} (k : Nat), 0 < f → f ≤ M → (∀ b ∈ bs, 0 < b ∧ b ≤ 400) → bs.length ≤ k → 0 < M → lcmF f bs ≤ M * 400 ^ k
  | [], f, M, k, h0, h1, _, _, hM => by
    have : (1 : Int) ≤ 400 ^ k := by
      have : (0 : Int) < 400 ^ k := Int.pow_pos (by decide)
      omega
    have h2 : M * 1 ≤ M * 400 ^ k := Int.mul_le_mul_of_nonneg_left this (by omega)
    show f ≤ _
    omega
  | b :: bs, f, M, 0, h0, h1, hb, hl, hM => by simp at hl
  | b :: bs, f, M, k + 1, h0, h1, hb, hl, hM => by
    have q := hb b List.mem_cons_self
    have h2 : (Int.lcm f b : Int) ≤ M * 400 := by
      have a1 := lcm_le h0 q.1
      have a2 : f * b ≤ M * 400 := Int.mul_le_mul h1 q.2 (by omega) (by omega)
      omega
    have h3 := lcmF_le (bs := bs) (M := M * 400) k (lcm_pos h0 q.1) h2 (fun x hx => hb x (List.mem_cons_of_mem _ hx)) (by simpa using hl) (by omega)
    rw [lcmF_cons, Int.pow_succ, Int.mul_comm (400 ^ k) 400, ← Int.mul_assoc]
    exact h3
/-! Bezout -/
theorem bezoutN : ∀ (a b : Nat), ∃ x y : Int, (a : Int) * x + (b : Int) * y = (Nat.gcd a b : Int) := by
  intro a
  induction a using Nat.strongRecOn with
  | _ a ih =>
    intro b
    by_cases h : a = 0
    · subst h
      exact ⟨0, 1, by simp⟩
    · have hlt : b % a < a := Nat.mod_lt _ (by omega)
      obtain ⟨x, y, e⟩ := ih (b % a) hlt a
      rw [← Nat.gcd_rec] at e
      refine ⟨y - (b / a : Nat) * x, x, ?_⟩
      have hd : (b : Int) = (a : Int) * ((b / a : Nat) : Int) + ((b % a : Nat) : Int) := by
        have := Nat.div_add_mod b a
        have h2 : ((a * (b / a) + b % a : Nat) : Int) = (b : Int) := by rw [this]
        rw [Int.natCast_add, Int.natCast_mul] at h2
        omega
      rw [← e]
      generalize hq : ((b / a : Nat) : Int) = q at hd
      generalize hr : ((b % a : Nat) : Int) = r at hd
      have : (a : Int) * (y - q * x) + (b : Int) * x = (a : Int) * y - (a : Int) * q * x + ((a : Int) * q + r) * x := by
        rw [hd, Int.mul_sub, Int.mul_assoc]
      rw [this, Int.add_mul]
      omega
theorem bezout {a b : Int} (ha : 0 < a) (hb : 0 < b) : ∃ x y : Int, a * x + b * y = (Int.gcd a b : Int) := by
  obtain ⟨x, y, e⟩ := bezoutN a.natAbs b.natAbs
  refine ⟨x, y, ?_⟩
  rw [Int.natAbs_of_nonneg (by omega), Int.natAbs_of_nonneg (by omega)] at e
  exact e
theorem emod_eq_of_dvd {a b n : Int} (h : n ∣ a - b) : a % n = b % n := Int.emod_eq_emod_iff_emod_sub_eq_zero.mpr (Int.emod_eq_zero_of_dvd h)
theorem dvd_of_emod_eq {a b n : Int} (h : a % n = b % n) : n ∣ a - b := Int.dvd_of_emod_eq_zero (Int.emod_eq_emod_iff_emod_sub_eq_zero.mp h)
/-- how often the step is to be made -/
theorem steps {s t m v : Int} (hs : 0 < s) (ht : 0 < t) (hm : 0 ≤ m) (hm2 : m < t) (h : (Int.gcd s t : Int) ∣ m - v) : ∃ k : Nat, (k : Int) * s < (Int.lcm s t : Int) ∧ (v + (k : Int) * s) % t = m := by
  obtain ⟨x, y, e⟩ := bezout hs ht
  obtain ⟨c, hc⟩ := h
  have hL := lcm_pos hs ht
  -- k0 = x * c, then below lcm / s
  have hsL : s ∣ (Int.lcm s t : Int) := Int.dvd_lcm_left s t
  obtain ⟨q, hq⟩ := hsL
  have hq0 : 0 < q := by
    rcases Int.lt_trichotomy q 0 with h | h | h
    · have := Int.mul_neg_of_pos_of_neg hs h
      omega
    · subst h
      simp at hq
      omega
    · exact h
  have hk := Int.emod_nonneg (x * c) (show q ≠ 0 by omega)
  have hk2 := Int.emod_lt_of_pos (x * c) hq0
  refine ⟨((x * c) % q).toNat, ?_, ?_⟩
  · rw [Int.toNat_of_nonneg hk, hq, Int.mul_comm s q]
    exact Int.mul_lt_mul_of_pos_right hk2 hs
  · rw [Int.toNat_of_nonneg hk]
    have e2 : m % t = m := Int.emod_eq_of_lt hm hm2
    rw [← e2]
    refine emod_eq_of_dvd ?_
    -- v + k s - m = (k - x c) s + (x c s - (m - v)) ; both multiples of t
    have h1 : t ∣ ((x * c) % q - x * c) * s := by
      have : q ∣ (x * c) % q - x * c := by
        refine dvd_of_emod_eq ?_
        rw [Int.emod_emod_of_dvd _ (Int.dvd_refl q)]
      obtain ⟨z, hz⟩ := this
      rw [hz, Int.mul_comm q z, Int.mul_assoc, Int.mul_comm q s, ← hq]
      exact Int.dvd_trans (Int.dvd_lcm_right s t) (Int.dvd_mul_left _ _)
    have h2 : t ∣ x * c * s - (m - v) := by
      rw [hc, ← e]
      refine ⟨-(y * c), ?_⟩
      rw [Int.add_mul, Int.mul_neg, ← Int.mul_assoc t y c]
      have : x * c * s = s * x * c := by rw [Int.mul_comm (x * c) s, Int.mul_assoc]
      omega
    have h3 := Int.dvd_add h1 h2
    have e3 : ((x * c) % q - x * c) * s + (x * c * s - (m - v)) = v + (x * c) % q * s - m := by
      rw [Int.sub_mul]
      omega
    rwa [e3] at h3
/-- the greatest divisor of a least multiple -/
theorem gcd_lcm_dvd {a b c y : Int} (h1 : (Int.gcd a c : Int) ∣ y) (h2 : (Int.gcd b c : Int) ∣ y) (ha : 0 < a) (hb : 0 < b) (hc : 0 < c) : (Int.gcd (Int.lcm a b : Int) c : Int) ∣ y := by
  refine Int.dvd_trans ?_ (Int.coe_lcm_dvd h1 h2)
  -- in natural numbers
  have key : ∀ a b c : Nat, 0 < a → 0 < b → 0 < c → Nat.gcd (Nat.lcm a b) c ∣ Nat.lcm (Nat.gcd a c) (Nat.gcd b c) := by
    intro a b c ha hb hc
    have g1 : 0 < Nat.gcd (Nat.gcd a c) (Nat.gcd b c) := Nat.gcd_pos_of_pos_left _ (Nat.gcd_pos_of_pos_left _ ha)
    refine Nat.dvd_of_mul_dvd_mul_left g1 ?_
    rw [Nat.gcd_mul_lcm]
    have e : Nat.gcd (Nat.gcd a c) (Nat.gcd b c) ∣ Nat.gcd a b := Nat.dvd_gcd (Nat.dvd_trans (Nat.gcd_dvd_left _ _) (Nat.gcd_dvd_left _ _)) (Nat.dvd_trans (Nat.gcd_dvd_right _ _) (Nat.gcd_dvd_left _ _))
    have e1 : Nat.gcd (Nat.gcd a c) (Nat.gcd b c) ∣ a := Nat.dvd_trans (Nat.gcd_dvd_left _ _) (Nat.gcd_dvd_left _ _)
    have e2 : Nat.gcd (Nat.gcd a c) (Nat.gcd b c) ∣ b := Nat.dvd_trans (Nat.gcd_dvd_right _ _) (Nat.gcd_dvd_left _ _)
    have e3 : Nat.gcd (Nat.gcd a c) (Nat.gcd b c) ∣ c := Nat.dvd_trans (Nat.gcd_dvd_left _ _) (Nat.gcd_dvd_right _ _)
    have f1 : Nat.gcd (Nat.lcm a b) c ∣ Nat.lcm a b := Nat.gcd_dvd_left _ _
    have f2 : Nat.gcd (Nat.lcm a b) c ∣ c := Nat.gcd_dvd_right _ _
    have m1 : Nat.gcd (Nat.gcd a c) (Nat.gcd b c) * Nat.gcd (Nat.lcm a b) c ∣ a * b := by
      have := Nat.mul_dvd_mul e f1
      rwa [Nat.gcd_mul_lcm] at this
    have m2 : Nat.gcd (Nat.gcd a c) (Nat.gcd b c) * Nat.gcd (Nat.lcm a b) c ∣ a * c := Nat.mul_dvd_mul e1 f2
    have m3 : Nat.gcd (Nat.gcd a c) (Nat.gcd b c) * Nat.gcd (Nat.lcm a b) c ∣ b * c := Nat.mul_dvd_mul e2 f2
    have m4 : Nat.gcd (Nat.gcd a c) (Nat.gcd b c) * Nat.gcd (Nat.lcm a b) c ∣ c * c := Nat.mul_dvd_mul e3 f2
    have n1 : Nat.gcd (Nat.gcd a c) (Nat.gcd b c) * Nat.gcd (Nat.lcm a b) c ∣ a * Nat.gcd b c := by
      have := Nat.dvd_gcd m1 m2
      rwa [Nat.gcd_mul_left] at this
    have n2 : Nat.gcd (Nat.gcd a c) (Nat.gcd b c) * Nat.gcd (Nat.lcm a b) c ∣ c * Nat.gcd b c := by
      have m3' : Nat.gcd (Nat.gcd a c) (Nat.gcd b c) * Nat.gcd (Nat.lcm a b) c ∣ c * b := by rw [Nat.mul_comm c b]; exact m3
      have := Nat.dvd_gcd m3' m4
      rwa [Nat.gcd_mul_left] at this
    have n3 := Nat.dvd_gcd n1 n2
    rwa [Nat.gcd_mul_right] at n3
  have z := key a.natAbs b.natAbs c.natAbs (by omega) (by omega) (by omega)
  have z2 := Int.natCast_dvd_natCast.mpr z
  exact z2
theorem gcd_lcmF_dvd {c y : Int} (hc : 0 < c) : ∀ {bs : List Int} {f : Int}, 0 < f → (∀ b ∈ bs, 0 < b) → (Int.gcd f c : Int) ∣ y → (∀ b ∈ bs, (Int.gcd b c : Int) ∣ y) → (Int.gcd (lcmF f bs) c : Int) ∣ y
  | [], _, _, _, h, _ => h
  | b :: bs, f, hf, hb, h, hbs => by
    have q := hb b List.mem_cons_self
    exact gcd_lcmF_dvd hc (bs := bs) (lcm_pos hf q) (fun x hx => hb x (List.mem_cons_of_mem _ hx)) (gcd_lcm_dvd h (hbs b List.mem_cons_self) hf q hc) fun x hx => hbs x (List.mem_cons_of_mem _ hx)
end K97

set_option Elab.async false
set_option linter.all false
set_option maxRecDepth 100000
set_option maxHeartbeats 4000000
/-! K97b: the belts' round, turns, rows; gears. -/
namespace K97
open PySem PySem.Spec PyProof.Rows L2 Pd Gen
theorem sm_small {k : Int} (h1 : -(10 ^ 100) ≤ k) (h2 : k ≤ 10 ^ 100) : sm k = true := sm_of (by omega) (by omega)
theorem inj1 {xs ys : List Int} (h : [tI xs] = [tI ys]) : xs = ys := by
  simp only [List.cons.injEq, PyData.tuple.injEq, and_true] at h
  exact ints_inj h
/-! round_of -/
def lcmL (bs : List Int) : Int := lcmF 1 bs
theorem Belt.pos {bs : List Int} (h : Belt bs) : ∀ b ∈ bs, 0 < b := fun b hb => by have := h.lim b hb; omega
theorem Belt.lcm_pos {bs : List Int} (h : Belt bs) : 0 < lcmL bs := lcmF_pos (by decide) h.pos
theorem Belt.lcm_le {bs : List Int} (h : Belt bs) : lcmL bs ≤ 4096000000000000 := by
  have := lcmF_le (bs := bs) (f := 1) (M := 1) 6 (by decide) (by decide) (fun b hb => ⟨h.pos b hb, (h.lim b hb).2⟩) h.len (by decide)
  exact this
theorem p400 {k : Nat} (h : k ≤ 6) : (400 : Int) ^ k ≤ 400 ^ 6 := by
  have : k = 0 ∨ k = 1 ∨ k = 2 ∨ k = 3 ∨ k = 4 ∨ k = 5 ∨ k = 6 := by omega
  rcases this with rfl | rfl | rfl | rfl | rfl | rfl | rfl <;> decide
theorem fm_round (S : SE) (A : Slot) (fin : Int → Prop) (hS : ∀ f s2, fin f → S.nx [A, .ow (.int f), s2]) : ∀ (bs : List Int) (f : Int) (s2 : Slot) (k : Nat), notIo (some s2) = true → 0 < f → f ≤ 400 ^ k → bs.length + k ≤ 6 → (∀ b ∈ bs, 0 < b ∧ b ≤ 400) → fin (lcmF f bs) →
    forM (bbName 2) (sSet 1 (mP (e2 gFdiv (e2 gMul (eVar 1) (eVar 2)) (eFn 2 c_shared (aCons (eVar 1) (aCons (eVar 2) aNil)))))) (bs.map PyData.int) S [A, .ow (.int f), s2]
  | [], f, s2, k, _, _, _, _, _, h => by simpa using hS f s2 h
  | b :: bs, f, s2, k, h2, h0, h1, hl, hb, h => by
    have q := hb b List.mem_cons_self
    have hk : f * b ≤ 400 ^ (k + 1) := by
      rw [Int.pow_succ]
      exact Int.mul_le_mul h1 q.2 (by omega) (Int.le_of_lt (Int.pow_pos (by decide)))
    have big := p400 (show k ≤ 6 by omega)
    have hg : 0 < (Int.gcd f b : Int) := by
      have := Int.gcd_pos_of_ne_zero_left b (show f ≠ 0 by omega)
      omega
    have hgl : (Int.gcd f b : Int) ≤ f := Int.le_of_dvd h0 (Int.gcd_dvd_left f b)
    have s1 : sm f = true := sm_small (by omega) (by omega)
    have s3 : sm b = true := sm_small (by omega) (by omega)
    have s4 : sm (Int.gcd f b : Int) = true := sm_small (by omega) (by omega)
    have ih := fm_round S A fin hS bs (Int.lcm f b : Int) (.ow (.int b)) (k + 1) rfl (lcm_pos h0 q.1) (Int.le_trans (lcm_le h0 q.1) hk) (by simp at hl; omega) (fun x hx => hb x (List.mem_cons_of_mem _ hx)) h
    rw [List.map_cons, ev_fcons]
    simp [h2, op_ii_mul s1 s3, op_ii_div hg s4, lcm_two h0 q.1]
    exact ih
noncomputable def c_round_of := gOf (fun bs : List Int => [tI bs]) Belt (fun bs => .int (lcmL bs))
theorem q_round_of {bs : List Int} (h : Belt bs) : c_round_of [tI bs] = some (.int (lcmL bs)) := gOf_eq (f := fun bs : List Int => [tI bs]) (fun a b h => by rw [inj1 h]) (a := bs) h
theorem l_round_of : ∀ ds d, ds.length = 1 → c_round_of ds = some d → m_round_of c_shared c_check_belt (seP d) (envP ds 2) := by
  intro ds d _ h
  obtain ⟨bs, hb, rfl, rfl⟩ := gOf_inv h
  simp [m_round_of, q_check_belt hb]
  refine fm_round _ _ (fun f => f = lcmL bs) (fun f s2 e => by simp [e]) bs 1 .no 0 rfl (by decide) (by decide) (by have := hb.len; omega) (fun b h => ⟨hb.pos b h, (hb.lim b h).2⟩) rfl
/-! stand_many -/
noncomputable def c_stand_many := gOf (fun a : List Int × Int => [tI a.1, .int a.2]) (fun a => Belt a.1 ∧ 0 ≤ a.2 ∧ a.2 ≤ 100000000000000000000) (fun a => .int (a.2 / lcmL a.1))
theorem q_stand_many {bs : List Int} {m : Int} (h : Belt bs) (h1 : 0 ≤ m) (h2 : m ≤ 100000000000000000000) : c_stand_many [tI bs, .int m] = some (.int (m / lcmL bs)) := gOf_eq (f := fun a : List Int × Int => [tI a.1, .int a.2]) (fun a b h => by
  obtain ⟨e1, e2⟩ := inj2 h
  rw [e1, e2]) (a := (bs, m)) ⟨h, h1, h2⟩
theorem Belt.sm {bs : List Int} (h : Belt bs) : sm (lcmL bs) = true := by
  have h1 := h.lcm_pos
  have h2 := h.lcm_le
  exact sm_small (by omega) (by omega)
theorem l_stand_many : ∀ ds d, ds.length = 2 → c_stand_many ds = some d → m_stand_many c_round_of c_check_moved (seP d) (envP ds 0) := by
  intro ds d _ h
  obtain ⟨⟨bs, m⟩, ⟨hb, h1, h2⟩, rfl, rfl⟩ := gOf_inv h
  simp only at hb h1 h2
  simp [m_stand_many, q_check_moved h1 h2, q_round_of hb, op_ii_div hb.lcm_pos hb.sm]
/-! turns_after -/
def turns (bs : List Int) (m : Int) : List D := bs.map fun b => .tuple [.int (m / b), .int (m % b)]
noncomputable def c_turns_after := gOf (fun a : List Int × Int => [tI a.1, .int a.2]) (fun a => Belt a.1 ∧ 0 ≤ a.2 ∧ a.2 ≤ 100000000000000000000) (fun a => .tuple (turns a.1 a.2))
theorem q_turns_after {bs : List Int} {m : Int} (h : Belt bs) (h1 : 0 ≤ m) (h2 : m ≤ 100000000000000000000) : c_turns_after [tI bs, .int m] = some (.tuple (turns bs m)) := gOf_eq (f := fun a : List Int × Int => [tI a.1, .int a.2]) (fun a b h => by
  obtain ⟨e1, e2⟩ := inj2 h
  rw [e1, e2]) (a := (bs, m)) ⟨h, h1, h2⟩
theorem frz_turns {bs : List Int} {m : Int} : frozenL (turns bs m) = true := fz_map (fun _ => rfl) bs
theorem l_turns_after : ∀ ds d, ds.length = 2 → c_turns_after ds = some d → m_turns_after c_check_moved c_check_belt (seP d) (envP ds 1) := by
  intro ds d _ h
  obtain ⟨⟨bs, m⟩, ⟨hb, h1, h2⟩, rfl, rfl⟩ := gOf_inv h
  simp only at hb h1 h2
  have hl := hb.len
  simp [m_turns_after, q_check_belt hb, q_check_moved h1 h2, capL (show bs.length ≤ 1000 by omega)]
  rw [lcMap (h := fun b => .tuple [.int (m / b), .int (m % b)])]
  · have e := gl_tupL (frz_turns (bs := bs) (m := m))
    unfold turns at e
    simp [e, turns]
  · intro b hb'
    have := hb.lim b hb'
    simp [op_ii_mod (show 0 < b by omega), op_ii_div (show 0 < b by omega) (sm_small (show -(10 ^ 100) ≤ b by omega) (by omega))]
/-! marks_all -/
def rows (bs : List Int) (n : Nat) : List D := (List.range n).map fun i : Nat => tI (after bs (i : Int))
noncomputable def c_marks_all := gOf (fun a : List Int × Nat => [tI a.1, .int (a.2 : Int)]) (fun a => Belt a.1 ∧ a.2 ≤ 400) (fun a => .list (rows a.1 a.2))
theorem q_marks_all {bs : List Int} {n : Nat} (h : Belt bs) (h1 : n ≤ 400) : c_marks_all [tI bs, .int (n : Int)] = some (.list (rows bs n)) := gOf_eq (f := fun a : List Int × Nat => [tI a.1, .int (a.2 : Int)]) (fun a b h => by
  obtain ⟨e1, e2⟩ := inj2 h
  have e2 : a.2 = b.2 := by omega
  rw [e1, e2]) (a := (bs, n)) ⟨h, h1⟩
theorem l_marks_all : ∀ ds d, ds.length = 2 → c_marks_all ds = some d → m_marks_all c_marks_after c_is_within c_check_belt (seP d) (envP ds 1) := by
  intro ds d _ h
  obtain ⟨⟨bs, n⟩, ⟨hb, h1⟩, rfl, rfl⟩ := gOf_inv h
  simp only at hb h1
  have hl := hb.len
  simp [m_marks_all, q_check_belt hb, q_is_within (show (0 : Int) ≤ (n : Int) by omega) (show (n : Int) ≤ 400 by omega), rg1_nat (show n ≤ 1000000 by omega), capL (show n ≤ 1000 by omega)]
  rw [lcMap (h := fun i : Nat => tI (after bs (i : Int)))]
  · simp [rows]
  · intro i hi
    have := List.mem_range.mp hi
    simp [q_marks_after hb (show (0 : Int) ≤ (i : Int) by omega) (show (i : Int) ≤ 100000000000000000000 by omega)]
/-! never_many -/
def prodF (f : Int) (bs : List Int) : Int := bs.foldl (fun f b => f * b) f
theorem fm_prod (S : SE) (A : Slot) (fin : Int → Prop) (hS : ∀ f s2, fin f → S.nx [A, .ow (.int f), s2]) : ∀ (bs : List Int) (f : Int) (s2 : Slot) (k : Nat), notIo (some s2) = true → 0 < f → f ≤ 400 ^ k → bs.length + k ≤ 6 → (∀ b ∈ bs, 0 < b ∧ b ≤ 400) → fin (prodF f bs) →
    forM (bbName 2) (sSet 1 (mP (e2 gMul (eVar 1) (eVar 2)))) (bs.map PyData.int) S [A, .ow (.int f), s2]
  | [], f, s2, k, _, _, _, _, _, h => by simpa using hS f s2 h
  | b :: bs, f, s2, k, h2, h0, h1, hl, hb, h => by
    have q := hb b List.mem_cons_self
    have hk : f * b ≤ 400 ^ (k + 1) := by
      rw [Int.pow_succ]
      exact Int.mul_le_mul h1 q.2 (by omega) (Int.le_of_lt (Int.pow_pos (by decide)))
    have big := p400 (show k ≤ 6 by omega)
    have s1 : sm f = true := sm_small (by omega) (by omega)
    have s3 : sm b = true := sm_small (by omega) (by omega)
    have ih := fm_prod S A fin hS bs (f * b) (.ow (.int b)) (k + 1) rfl (Int.mul_pos h0 q.1) hk (by simp at hl; omega) (fun x hx => hb x (List.mem_cons_of_mem _ hx)) h
    rw [List.map_cons, ev_fcons]
    simp [h2, op_ii_mul s1 s3]
    exact ih
noncomputable def c_never_many := gOf (fun bs : List Int => [tI bs]) Belt (fun bs => .int (prodF 1 bs - lcmL bs))
theorem q_never_many {bs : List Int} (h : Belt bs) : c_never_many [tI bs] = some (.int (prodF 1 bs - lcmL bs)) := gOf_eq (f := fun bs : List Int => [tI bs]) (fun a b h => by rw [inj1 h]) (a := bs) h
theorem l_never_many : ∀ ds d, ds.length = 1 → c_never_many ds = some d → m_never_many c_round_of c_check_belt (seP d) (envP ds 2) := by
  intro ds d _ h
  obtain ⟨bs, hb, rfl, rfl⟩ := gOf_inv h
  simp [m_never_many, q_check_belt hb]
  refine fm_prod _ _ (fun f => f = prodF 1 bs) (fun f s2 e => by simp [e, q_round_of hb]) bs 1 .no 0 rfl (by decide) (by decide) (by have := hb.len; omega) (fun b h => ⟨hb.pos b h, (hb.lim b h).2⟩) rfl
/-! wheel_between -/
theorem inj3 {xs ys : List Int} {a b c d : Int} (h : [tI xs, PyData.int a, .int b] = [tI ys, .int c, .int d]) : xs = ys ∧ a = c ∧ b = d := by
  simp only [List.cons.injEq, PyData.int.injEq, PyData.tuple.injEq, and_true] at h
  exact ⟨ints_inj h.1, h.2⟩
noncomputable def c_wheel_between := gOf (fun a : List Int × Nat × Nat => [tI a.1, .int (a.2.1 : Int), .int (a.2.2 : Int)]) (fun a => Belt a.1 ∧ a.2.1 < a.1.length ∧ a.2.2 < a.1.length) (fun a => .tuple [.int (a.1.getD a.2.2 0 / (Int.gcd (a.1.getD a.2.1 0) (a.1.getD a.2.2 0) : Int)), .int (a.1.getD a.2.1 0 / (Int.gcd (a.1.getD a.2.1 0) (a.1.getD a.2.2 0) : Int))])
theorem q_wheel_between {bs : List Int} {i j : Nat} (h : Belt bs) (hi : i < bs.length) (hj : j < bs.length) : c_wheel_between [tI bs, .int (i : Int), .int (j : Int)] = some (.tuple [.int (bs.getD j 0 / (Int.gcd (bs.getD i 0) (bs.getD j 0) : Int)), .int (bs.getD i 0 / (Int.gcd (bs.getD i 0) (bs.getD j 0) : Int))]) :=
  gOf_eq (f := fun a : List Int × Nat × Nat => [tI a.1, .int (a.2.1 : Int), .int (a.2.2 : Int)]) (fun a b h => by
    obtain ⟨e1, e2, e3⟩ := inj3 h
    have e2 : a.2.1 = b.2.1 := by omega
    have e3 : a.2.2 = b.2.2 := by omega
    rw [e1, e2, e3]) (a := (bs, i, j)) ⟨h, hi, hj⟩
theorem get_ix {bs : List Int} {i : Nat} (h : i < bs.length) : gIx (tI bs) (.int (i : Int)) = some (.int (bs.getD i 0)) := ix_tm (by rw [List.getD_eq_getElem?_getD, List.getElem?_eq_getElem h]; rfl)
theorem getD_mem {bs : List Int} {i : Nat} (h : i < bs.length) : bs.getD i 0 ∈ bs := by
  rw [List.getD_eq_getElem?_getD, List.getElem?_eq_getElem h]
  exact List.getElem_mem h
theorem l_wheel_between : ∀ ds d, ds.length = 3 → c_wheel_between ds = some d → m_wheel_between c_shared c_is_within c_check_belt (seP d) (envP ds 1) := by
  intro ds d _ h
  obtain ⟨⟨bs, i, j⟩, ⟨hb, hi, hj⟩, rfl, rfl⟩ := gOf_inv h
  simp only at hb hi hj
  have li := hb.lim _ (getD_mem hi)
  have lj := hb.lim _ (getD_mem hj)
  have hg : 0 < (Int.gcd (bs.getD i 0) (bs.getD j 0) : Int) := by
    have := Int.gcd_pos_of_ne_zero_left (bs.getD j 0) (show bs.getD i 0 ≠ 0 by omega)
    omega
  have hgl : (Int.gcd (bs.getD i 0) (bs.getD j 0) : Int) ≤ bs.getD i 0 := Int.le_of_dvd (by omega) (Int.gcd_dvd_left _ _)
  have s4 : sm (Int.gcd (bs.getD i 0) (bs.getD j 0) : Int) = true := sm_small (by omega) (by omega)
  have e1 := get_ix hi
  have e2 := get_ix hj
  generalize bs.getD i 0 = x at *
  generalize bs.getD j 0 = y at *
  simp [m_wheel_between, q_check_belt hb, q_is_within (show (0 : Int) ≤ (i : Int) by omega) (show (i : Int) ≤ (bs.length : Int) - 1 by omega), q_is_within (show (0 : Int) ≤ (j : Int) by omega) (show (j : Int) ≤ (bs.length : Int) - 1 by omega), e1, e2, op_ii_div hg s4]
/-! gears -/
noncomputable def c_check_teeth : D → Option D := fun d => (gOf (fun xs : List Int => [tI xs]) (fun xs => xs.length ≤ 10 ∧ ∀ x ∈ xs, 2 ≤ x ∧ x ≤ 1000) (fun _ => .none)) [d]
theorem q_check_teeth {xs : List Int} (h : xs.length ≤ 10) (h2 : ∀ x ∈ xs, 2 ≤ x ∧ x ≤ 1000) : c_check_teeth (tI xs) = some .none := gOf_eq (fun _ _ _ => rfl) (a := xs) ⟨h, h2⟩
theorem q_check_teeth2 {a b : Int} (ha : 2 ≤ a ∧ a ≤ 1000) (hb : 2 ≤ b ∧ b ≤ 1000) : c_check_teeth (.tuple [.int a, .int b]) = some .none := q_check_teeth (xs := [a, b]) (Nat.le_of_ble_eq_true rfl) (by simp [ha, hb])
theorem l_check_teeth : ∀ ds d, c_check_teeth (.tuple ds) = some d → m_check_teeth c_is_within (seP d) (envP [.tuple ds] 1) := by
  intro ds d h
  obtain ⟨xs, ⟨h1, h2⟩, e, rfl⟩ := gOf_inv h
  simp only [List.cons.injEq, and_true] at e
  rw [e]
  simp [m_check_teeth, capL (show xs.length ≤ 1000 by omega)]
  rw [lcMap (h := fun _ => .bool true)]
  · simp
  · intro x hx
    simp [q_is_within (h2 x hx).1 (h2 x hx).2]
theorem injII {a b c d : Int} (h : [PyData.int a, PyData.int b] = [.int c, .int d]) : a = c ∧ b = d := by
  simp only [List.cons.injEq, PyData.int.injEq, and_true] at h
  exact h
def Gear (a : Int) : Prop := 2 ≤ a ∧ a ≤ 1000
noncomputable def c_same_meet := gOf (fun a : Int × Int => [PyData.int a.1, .int a.2]) (fun a => Gear a.1 ∧ Gear a.2) (fun a => .int (Int.lcm a.1 a.2))
theorem q_same_meet {a b : Int} (ha : Gear a) (hb : Gear b) : c_same_meet [.int a, .int b] = some (.int (Int.lcm a b)) := gOf_eq (f := fun a : Int × Int => [PyData.int a.1, .int a.2]) (fun a b h => by rw [(injII h).1, (injII h).2]) (a := (a, b)) ⟨ha, hb⟩
theorem gcd_sm {a b : Int} (ha : Gear a) : 0 < (Int.gcd a b : Int) ∧ sm (Int.gcd a b : Int) = true := by
  obtain ⟨h1, h2⟩ := ha
  have hg : 0 < (Int.gcd a b : Int) := by
    have := Int.gcd_pos_of_ne_zero_left b (show a ≠ 0 by omega)
    omega
  have hgl : (Int.gcd a b : Int) ≤ a := Int.le_of_dvd (by omega) (Int.gcd_dvd_left _ _)
  exact ⟨hg, sm_small (by omega) (by omega)⟩
theorem Gear.sm {a : Int} (h : Gear a) : sm a = true := sm_small (by have := h.1; omega) (by have := h.2; omega)
theorem l_same_meet : ∀ ds d, ds.length = 2 → c_same_meet ds = some d → m_same_meet c_shared (fun ds => c_check_teeth (.tuple ds)) (seP d) (envP ds 0) := by
  intro ds d _ h
  obtain ⟨⟨a, b⟩, ⟨ha, hb⟩, rfl, rfl⟩ := gOf_inv h
  simp only at ha hb
  simp [m_same_meet, q_check_teeth2 ha hb, op_ii_mul ha.sm hb.sm, op_ii_div (gcd_sm (b := b) ha).1 (gcd_sm (b := b) ha).2, lcm_two (show 0 < a by have := ha.1; omega) (show 0 < b by have := hb.1; omega)]
noncomputable def c_all_meet := gOf (fun a : Int × Int => [PyData.int a.1, .int a.2]) (fun a => Gear a.1 ∧ Gear a.2) (fun a => .bool (decide ((Int.gcd a.1 a.2 : Int) = 1)))
theorem q_all_meet {a b : Int} (ha : Gear a) (hb : Gear b) : c_all_meet [.int a, .int b] = some (.bool (decide ((Int.gcd a b : Int) = 1))) := gOf_eq (f := fun a : Int × Int => [PyData.int a.1, .int a.2]) (fun a b h => by rw [(injII h).1, (injII h).2]) (a := (a, b)) ⟨ha, hb⟩
theorem l_all_meet : ∀ ds d, ds.length = 2 → c_all_meet ds = some d → m_all_meet c_shared (fun ds => c_check_teeth (.tuple ds)) (seP d) (envP ds 0) := by
  intro ds d _ h
  obtain ⟨⟨a, b⟩, ⟨ha, hb⟩, rfl, rfl⟩ := gOf_inv h
  simp only at ha hb
  simp [m_all_meet, q_check_teeth2 ha hb]
def met (a : Int) (n : Nat) (t : Int) : List Int := ((List.range n).map fun i : Nat => (i : Int)).filter fun x => decide ((x - t) % (Int.gcd a n : Int) = 0)
noncomputable def c_teeth_met := gOf (fun a : Int × Nat × Int => [PyData.int a.1, .int (a.2.1 : Int), .int a.2.2]) (fun a => Gear a.1 ∧ Gear (a.2.1 : Int) ∧ 0 ≤ a.2.2 ∧ a.2.2 < a.1) (fun a => tI (met a.1 a.2.1 a.2.2))
theorem injIII {a b c d e f : Int} (h : [PyData.int a, PyData.int b, .int c] = [.int d, .int e, .int f]) : a = d ∧ b = e ∧ c = f := by
  simp only [List.cons.injEq, PyData.int.injEq, and_true] at h
  exact h
theorem q_teeth_met {a t : Int} {n : Nat} (ha : Gear a) (hb : Gear (n : Int)) (h0 : 0 ≤ t) (h1 : t < a) : c_teeth_met [.int a, .int (n : Int), .int t] = some (tI (met a n t)) := gOf_eq (f := fun a : Int × Nat × Int => [PyData.int a.1, .int (a.2.1 : Int), .int a.2.2]) (fun a b h => by
  obtain ⟨e1, e2, e3⟩ := injIII h
  have e2 : a.2.1 = b.2.1 := by omega
  rw [e1, e2, e3]) (a := (a, n, t)) ⟨ha, hb, h0, h1⟩
theorem l_teeth_met : ∀ ds d, ds.length = 3 → c_teeth_met ds = some d → m_teeth_met c_shared c_is_within (fun ds => c_check_teeth (.tuple ds)) (seP d) (envP ds 2) := by
  intro ds d _ h
  obtain ⟨⟨a, n, t⟩, ⟨ha, hb, h0, h1⟩, rfl, rfl⟩ := gOf_inv h
  simp only at ha hb h0 h1
  have hn := hb.2
  simp [m_teeth_met, q_check_teeth2 ha hb, q_is_within h0 (show t ≤ a - 1 by omega), rg1_nat (show n ≤ 1000000 by omega), capL (show n ≤ 1000 by omega)]
  rw [lcFilter (p := fun i : Nat => decide (((i : Int) - t) % (Int.gcd a n : Int) = 0)) (h := fun i : Nat => .int (i : Int))]
  · have e : ((List.range n).filter fun i : Nat => decide (((i : Int) - t) % (Int.gcd a n : Int) = 0)).map (fun i : Nat => PyData.int (i : Int)) = (met a n t).map .int := by
      unfold met
      rw [List.filter_map, List.map_map]
      rfl
    simp [e, gl_tupL]
  · intro i hi
    simp [op_ii_mod (gcd_sm (b := (n : Int)) ha).1]
    split <;> simp_all
end K97

set_option Elab.async false
set_option linter.all false
set_option maxRecDepth 100000
set_option maxHeartbeats 4000000
/-! K97c: marks_stand. -/
namespace K97
open PySem PySem.Spec PyProof.Rows L2 Pd Gen
def badP (bs ms : List Int) (i j : Nat) : Bool := decide (0 < (ms.getD i 0 - ms.getD j 0) % (Int.gcd (bs.getD i 0) (bs.getD j 0) : Int))
def jsL (n i : Nat) : List Nat := (List.range (n - (i + 1))).map fun k => i + 1 + k
def firstBad (bs ms : List Int) : Option (Nat × Nat) := (List.range bs.length).findSome? fun i => ((jsL bs.length i).find? (badP bs ms i)).map fun j => (i, j)
theorem firstBad_none {bs ms : List Int} (h : firstBad bs ms = none) : ∀ i j, i < j → j < bs.length → badP bs ms i j = false := by
  intro i j h1 h2
  have q := List.findSome?_eq_none_iff.mp h i (List.mem_range.mpr (by omega))
  rw [Option.map_eq_none_iff, List.find?_eq_none] at q
  have := q j (List.mem_map.mpr ⟨j - (i + 1), List.mem_range.mpr (by omega), by omega⟩)
  simpa using this
theorem firstBad_some {bs ms : List Int} {i j : Nat} (h : firstBad bs ms = some (i, j)) : i < j ∧ j < bs.length ∧ badP bs ms i j = true := by
  obtain ⟨i', hi, q⟩ := List.exists_of_findSome?_eq_some h
  obtain ⟨j', q2, q3⟩ := Option.map_eq_some_iff.mp q
  cases q3
  have m := List.mem_of_find?_eq_some q2
  have p := List.find?_some q2
  obtain ⟨k, hk, rfl⟩ := List.mem_map.mp m
  have := List.mem_range.mp hk
  exact ⟨by omega, by omega, p⟩
/-! the one number of rest m by every tooth count -/
def Meets (x : Int) (ps : List (Int × Int)) : Prop := ∀ p ∈ ps, x % p.2 = p.1
open Classical in
noncomputable def crtV (bs ms : List Int) : Int := if h : ∃ x, 0 ≤ x ∧ x < lcmL bs ∧ Meets x (ms.zip bs) then h.choose else 0
theorem mem_zip_at {ms bs : List Int} (hl : ms.length = bs.length) {i : Nat} (h : i < bs.length) : (ms.getD i 0, bs.getD i 0) ∈ ms.zip bs := by
  rw [List.mem_iff_getElem?]
  refine ⟨i, ?_⟩
  rw [List.getElem?_zip_eq_some]
  simp only [List.getD_eq_getElem?_getD]
  rw [List.getElem?_eq_getElem (by omega), List.getElem?_eq_getElem h]
  exact ⟨rfl, rfl⟩
theorem zip_mem_at {ms bs : List Int} {p : Int × Int} (h : p ∈ ms.zip bs) : ∃ i, i < bs.length ∧ p = (ms.getD i 0, bs.getD i 0) := by
  obtain ⟨i, hi⟩ := List.mem_iff_getElem?.mp h
  rw [List.getElem?_zip_eq_some] at hi
  refine ⟨i, (List.getElem?_eq_some_iff.mp hi.2).1, ?_⟩
  simp only [List.getD_eq_getElem?_getD, hi.1, hi.2]
  rfl
theorem crt_unique {bs ms : List Int} (hb : Belt bs) (hl : ms.length = bs.length) {x y : Int} (hx : 0 ≤ x) (hx2 : x < lcmL bs) (mx : Meets x (ms.zip bs)) (hy : 0 ≤ y) (hy2 : y < lcmL bs) (my : Meets y (ms.zip bs)) : x = y := by
  have key : lcmL bs ∣ x - y := by
    refine lcmF_min (Int.one_dvd _) fun b hm => ?_
    obtain ⟨i, hi, e⟩ := List.getElem_of_mem hm
    have q := mem_zip_at hl hi
    have e2 : bs.getD i 0 = b := by rw [List.getD_eq_getElem?_getD, List.getElem?_eq_getElem hi, ← e]; rfl
    have a1 := mx _ q
    have a2 := my _ q
    simp only [e2] at a1 a2
    exact dvd_of_emod_eq (a1.trans a2.symm)
  have e1 : x % lcmL bs = y % lcmL bs := emod_eq_of_dvd key
  rwa [Int.emod_eq_of_lt hx hx2, Int.emod_eq_of_lt hy hy2] at e1
theorem crtV_eq {bs ms : List Int} (hb : Belt bs) (hl : ms.length = bs.length) {x : Int} (hx : 0 ≤ x) (hx2 : x < lcmL bs) (mx : Meets x (ms.zip bs)) : crtV bs ms = x := by
  have hex : ∃ x, 0 ≤ x ∧ x < lcmL bs ∧ Meets x (ms.zip bs) := ⟨x, hx, hx2, mx⟩
  unfold crtV
  rw [dif_pos hex]
  obtain ⟨a, b, c⟩ := hex.choose_spec
  exact crt_unique hb hl a b c hx hx2 mx
noncomputable def standD (bs ms : List Int) : D := match firstBad bs ms with
  | some p => .tuple [.str "never", .tuple [.int (p.1 : Int), .int (p.2 : Int)]]
  | none => .tuple [.str "moved", .int (crtV bs ms)]
/-! the loops -/
section
variable {S : SE} {A0 A1 s2 s3 s4 s5 s6 s7 : Slot} {bs ms : List Int}
abbrev bodyIn : FS := sIf (mT (tst (e2 cmpGt (e2 gMod (e2 Pd.gSub (e2 gIx (eVar 1) (eVar 2)) (e2 gIx (eVar 1) (eVar 7))) (eFn 2 c_shared (aCons (e2 gIx (eVar 0) (eVar 2)) (aCons (e2 gIx (eVar 0) (eVar 7)) aNil)))) (eC (.int 0))))) (sRet (mP (eTup (aCons (eC (.str "never")) (aCons (eTup (aCons (eFrz (eVar 2)) (aCons (eFrz (eVar 7)) aNil))) aNil))))) sNext
theorem gcd_pos' {a b : Int} (h : 0 < a) : 0 < (Int.gcd a b : Int) := by
  have := Int.gcd_pos_of_ne_zero_left b (show a ≠ 0 by omega)
  omega
theorem fm_in (hb : Belt bs) (hl : ms.length = bs.length) {i : Nat} (hi : i < bs.length) (S : SE) : ∀ (js : List Nat) (s7 : Slot), notIo (some s7) = true → (∀ j ∈ js, j < bs.length) →
    (match js.find? (badP bs ms i) with
      | some j => ∀ ε, S.rt (.tuple [.str "never", .tuple [.int (i : Int), .int (j : Int)]]) ε
      | none => ∀ s7, notIo (some s7) = true → S.nx [.ow (tI bs), .ow (tI ms), .ow (.int (i : Int)), s3, s4, s5, s6, s7]) →
    forM (bbName 7) bodyIn (js.map fun j : Nat => PyData.int (j : Int)) S [.ow (tI bs), .ow (tI ms), .ow (.int (i : Int)), s3, s4, s5, s6, s7]
  | [], s7, h7, _, h => by
    simp only [List.find?_nil] at h
    simpa using h s7 h7
  | j :: js, s7, h7, hj, h => by
    have hj0 := hj j List.mem_cons_self
    have e1 := get_ix (bs := bs) hi
    have e2 := get_ix (bs := bs) hj0
    have e3 := get_ix (bs := ms) (show i < ms.length by omega)
    have e4 := get_ix (bs := ms) (show j < ms.length by omega)
    have hg := gcd_pos' (b := bs.getD j 0) (hb.pos _ (getD_mem hi))
    rw [List.map_cons, ev_fcons]
    rw [List.find?_cons] at h
    simp only [ev_bbname, List.getElem?_cons_succ, List.getElem?_cons_zero, h7, if_true, ev_os, List.set_cons_succ, List.set_cons_zero, ts_int]
    by_cases hp : badP bs ms i j = true
    · rw [hp] at h
      have hp' : 0 < (ms.getD i 0 - ms.getD j 0) % (Int.gcd (bs.getD i 0) (bs.getD j 0) : Int) := by simpa [badP] using hp
      generalize bs.getD i 0 = x1 at *
      generalize bs.getD j 0 = x2 at *
      generalize ms.getD i 0 = x3 at *
      generalize ms.getD j 0 = x4 at *
      simp [e1, e2, e3, e4, op_ii_mod hg, hp']
      exact h _
    · have hp0 : badP bs ms i j = false := by simpa using hp
      rw [hp0] at h
      have hp' : ¬ 0 < (ms.getD i 0 - ms.getD j 0) % (Int.gcd (bs.getD i 0) (bs.getD j 0) : Int) := by simpa [badP] using hp0
      have ih := fm_in hb hl hi S js (.ow (.int (j : Int))) rfl (fun x hx => hj x (List.mem_cons_of_mem _ hx)) h
      generalize bs.getD i 0 = x1 at *
      generalize bs.getD j 0 = x2 at *
      generalize ms.getD i 0 = x3 at *
      generalize ms.getD j 0 = x4 at *
      simp [e1, e2, e3, e4, op_ii_mod hg, hp']
      exact ih
theorem rg_js {n i : Nat} (h : n ≤ 1000) (hi : i < n) : giRg2 [.int ((i : Int) + 1), .int (n : Int)] = some ((jsL n i).map fun j : Nat => PyData.int (j : Int)) := by
  rw [rg2_of (by omega) (by omega) (by omega) (by omega)]
  unfold jsL
  rw [List.map_map, show ((n : Int) - ((i : Int) + 1)).toNat = n - (i + 1) by omega]
  congr 1
abbrev bodyOut : FS := sFor (miOf giRg2 (maCons (mP (e2 gAdd (eVar 2) (eC (.int 1)))) (maCons (mP (eCall gLen (aCons (eVar 0) aNil))) maNil))) (bbName 7) bodyIn
theorem fm_out (hb : Belt bs) (hl : ms.length = bs.length) (S : SE) : ∀ (is : List Nat) (s2 s7 : Slot), notIo (some s2) = true → notIo (some s7) = true → (∀ i ∈ is, i < bs.length) →
    (match is.findSome? (fun i => ((jsL bs.length i).find? (badP bs ms i)).map fun j => (i, j)) with
      | some p => ∀ ε, S.rt (.tuple [.str "never", .tuple [.int (p.1 : Int), .int (p.2 : Int)]]) ε
      | none => ∀ s2 s7, notIo (some s2) = true → notIo (some s7) = true → S.nx [.ow (tI bs), .ow (tI ms), s2, s3, s4, s5, s6, s7]) →
    forM (bbName 2) bodyOut (is.map fun i : Nat => PyData.int (i : Int)) S [.ow (tI bs), .ow (tI ms), s2, s3, s4, s5, s6, s7] := by
  intro is
  induction is with
  | nil =>
    intro s2 s7 h2 h7 _ h
    simp only [List.findSome?_nil] at h
    simpa using h s2 s7 h2 h7
  | cons i is ih =>
    intro s2 s7 h2 h7 hi h
    have hi0 := hi i List.mem_cons_self
    have hl6 := hb.len
    rw [List.map_cons, ev_fcons]
    simp only [ev_bbname, List.getElem?_cons_succ, List.getElem?_cons_zero, h2, if_true, ev_os, List.set_cons_succ, List.set_cons_zero, ts_int]
    simp only [bodyOut]
    simp [rg_js (show bs.length ≤ 1000 by omega) hi0]
    refine fm_in hb hl hi0 _ _ _ h7 (fun j hj => ?_) ?_
    · obtain ⟨k, hk, rfl⟩ := List.mem_map.mp hj
      have := List.mem_range.mp hk
      omega
    · rw [List.findSome?_cons] at h
      cases q : (jsL bs.length i).find? (badP bs ms i) with
      | some j => rw [q] at h; exact h
      | none =>
        rw [q] at h
        exact fun s7 h7 => ih _ s7 rfl h7 (fun x hx => hi x (List.mem_cons_of_mem _ hx)) h
/-! the wheels' search -/
abbrev whTest : En → Option (Bool × En) := mT (tst (e2 cmpNe (e2 gMod (eVar 3) (eVar 6)) (eVar 5)))
theorem wh_step (S : SE) {st t m : Int} (ht : 0 < t) : ∀ (k : Nat) (mv : Int), (mv + (k : Int) * st) % t = m → (∀ k' : Nat, k' ≤ k → (mv + (k' : Int) * st) % t = m → S.nx [A0, A1, s2, .ow (.int (mv + (k' : Int) * st)), .ow (.int st), .ow (.int m), .ow (.int t), s7]) →
    whM whTest (sAug 3 gAddI (mLend 4)) (k + 1) S [A0, A1, s2, .ow (.int mv), .ow (.int st), .ow (.int m), .ow (.int t), s7]
  | 0, mv, h, hS => by
    have h0 : mv % t = m := by simpa using h
    have := hS 0 (Nat.le_refl _) h
    rw [ev_wh]
    simp [whTest, op_ii_mod ht, h0]
    simpa using this
  | k + 1, mv, h, hS => by
    rw [ev_wh]
    by_cases h0 : mv % t = m
    · have := hS 0 (by omega) (by simpa using h0)
      simp [whTest, op_ii_mod ht, h0]
      simpa using this
    · have e : ∀ k' : Nat, mv + st + (k' : Int) * st = mv + ((k' + 1 : Nat) : Int) * st := fun k' => by
        rw [Int.natCast_add, Int.add_mul]
        simp
        omega
      have ih := wh_step S (st := st) (m := m) ht k (mv + st) (by rw [e]; exact h) (fun k' hk' q => by
        rw [e] at q ⊢
        exact hS (k' + 1) (by omega) q)
      simp [whTest, op_ii_mod ht, h0]
      exact ih
abbrev bodyZip : FS := sSeq (sWhile (mT (tst (e2 cmpNe (e2 gMod (eVar 3) (eVar 6)) (eVar 5)))) (sAug 3 gAddI (mLend 4)))
  (sSet 4 (mP (e2 gFdiv (e2 gMul (eVar 4) (eVar 6)) (eFn 2 c_shared (aCons (eVar 4) (aCons (eVar 6) aNil))))))
theorem fm_zip (S : SE) (hS : ∀ mv s4 s5 s6, 0 ≤ mv → mv < lcmL bs → Meets mv (ms.zip bs) → S.nx [A0, A1, s2, .ow (.int mv), s4, s5, s6, s7]) (hb : Belt bs) (hl : ms.length = bs.length)
    (hz : ∀ p ∈ ms.zip bs, 0 ≤ p.1 ∧ p.1 < p.2) (hc : ∀ p ∈ ms.zip bs, ∀ q ∈ ms.zip bs, (Int.gcd p.2 q.2 : Int) ∣ q.1 - p.1) : ∀ (rest pre : List (Int × Int)) (mv : Int) (s5 s6 : Slot), ms.zip bs = pre ++ rest → notIo (some s5) = true → notIo (some s6) = true →
    0 ≤ mv → mv < lcmF 1 (pre.map (·.2)) → Meets mv pre →
    forM (bTup (bCons (bbName 5) (bCons (bbName 6) bNil))) bodyZip (rest.map fun p => .tuple [.int p.1, .int p.2]) S [A0, A1, s2, .ow (.int mv), .ow (.int (lcmF 1 (pre.map (·.2)))), s5, s6, s7]
  | [], pre, mv, s5, s6, e, h5, h6, h0, h1, hm => by
    rw [List.append_nil] at e
    have e2 : pre.map (·.2) = bs := by
      rw [← e, List.map_snd_zip (by omega)]
    rw [e2] at h1 ⊢
    rw [← e] at hm
    simpa using hS mv _ s5 s6 h0 h1 hm
  | p :: rest, pre, mv, s5, s6, e, h5, h6, h0, h1, hm => by
    have hp : p ∈ ms.zip bs := by rw [e]; simp
    have hpre : ∀ q ∈ pre, q ∈ ms.zip bs := fun q hq => by rw [e]; exact List.mem_append_left _ hq
    have hpos : ∀ q ∈ ms.zip bs, 0 < q.2 := fun q hq => by have := hz q hq; omega
    have hlim : ∀ q ∈ ms.zip bs, q.2 ∈ bs := fun q hq => (List.of_mem_zip hq).2
    have ht := hpos p hp
    have hst : 0 < lcmF 1 (pre.map (·.2)) := lcmF_pos (by decide) fun b hb' => by
      obtain ⟨q, hq, rfl⟩ := List.mem_map.mp hb'
      exact hpos q (hpre q hq)
    have hdv : (Int.gcd (lcmF 1 (pre.map (·.2))) p.2 : Int) ∣ p.1 - mv := by
      refine gcd_lcmF_dvd ht (by decide) (fun b hb' => ?_) ?_ fun b hb' => ?_
      · obtain ⟨q, hq, rfl⟩ := List.mem_map.mp hb'
        exact hpos q (hpre q hq)
      · rw [Int.one_gcd]
        exact Int.one_dvd _
      · obtain ⟨q, hq, rfl⟩ := List.mem_map.mp hb'
        have a1 := hc q (hpre q hq) p hp
        have a2 : q.2 ∣ q.1 - mv := by
          refine dvd_of_emod_eq ?_
          rw [← hm q hq]
          exact Int.emod_emod_of_dvd _ (Int.dvd_refl _)
        have a3 := Int.dvd_add a1 (Int.dvd_trans (Int.gcd_dvd_left q.2 p.2) a2)
        have e3 : p.1 - q.1 + (q.1 - mv) = p.1 - mv := by omega
        rwa [e3] at a3
    have zp := hz p hp
    obtain ⟨k, hk1, hk2⟩ := steps hst ht zp.1 zp.2 hdv
    have hL : lcmF 1 ((pre ++ [p]).map (·.2)) = (Int.lcm (lcmF 1 (pre.map (·.2))) p.2 : Int) := by
      unfold lcmF
      rw [List.map_append, List.foldl_append]
      rfl
    have hle : lcmF 1 (pre.map (·.2)) ≤ 4096000000000000 := by
      have hlen : pre.length ≤ 6 := by
        have := congrArg List.length e
        simp at this
        have := hb.len
        omega
      have := lcmF_le (bs := pre.map (·.2)) (f := 1) (M := 1) 6 (by decide) (by decide) (fun b hb' => by
        obtain ⟨q, hq, rfl⟩ := List.mem_map.mp hb'
        exact ⟨hpos q (hpre q hq), (hb.lim _ (hlim q (hpre q hq))).2⟩) (by simpa using hlen) (by decide)
      exact this
    have hp4 := (hb.lim _ (hlim p hp)).2
    have s1 : sm (lcmF 1 (pre.map (·.2))) = true := sm_small (by omega) (by omega)
    have s3 : sm p.2 = true := sm_small (by omega) (by omega)
    have hg := gcd_pos' (b := p.2) hst
    have hgl : (Int.gcd (lcmF 1 (pre.map (·.2))) p.2 : Int) ≤ lcmF 1 (pre.map (·.2)) := Int.le_of_dvd hst (Int.gcd_dvd_left _ _)
    have s5' : sm (Int.gcd (lcmF 1 (pre.map (·.2))) p.2 : Int) = true := sm_small (by omega) (by omega)
    have lc := lcm_two hst ht
    rw [List.map_cons, ev_fcons]
    simp only [ev_btup, ev_bcons, ev_bnil, ev_bbname, List.getElem?_cons_succ, List.getElem?_cons_zero, h5, h6, if_true, ev_os, List.set_cons_succ, List.set_cons_zero, ts_int, Option.bind_some, bodyZip, ev_seq]
    rw [ev_while]
    refine ⟨k + 1, wh_step _ ht k mv hk2 fun k' hk' q => ?_⟩
    have ih := fm_zip S hS hb hl hz hc rest (pre ++ [p]) (mv + (k' : Int) * lcmF 1 (pre.map (·.2))) (.ow (.int p.1)) (.ow (.int p.2)) (by rw [List.append_assoc]; exact e) rfl rfl
      (by
        have : 0 ≤ (k' : Int) * lcmF 1 (pre.map (·.2)) := Int.mul_nonneg (by omega) (by omega)
        omega)
      (by
        rw [hL]
        have l1 : (k' : Int) * lcmF 1 (pre.map (·.2)) ≤ (k : Int) * lcmF 1 (pre.map (·.2)) := Int.mul_le_mul_of_nonneg_right (by omega) (by omega)
        -- both are multiples of the step below the new one
        have hd : lcmF 1 (pre.map (·.2)) ∣ (Int.lcm (lcmF 1 (pre.map (·.2))) p.2 : Int) := Int.dvd_lcm_left _ _
        obtain ⟨z, hz'⟩ := hd
        rw [hz'] at hk1 ⊢
        generalize lcmF 1 (pre.map (·.2)) = st at *
        have hkz : (k : Int) < z := by
          rw [Int.mul_comm st z] at hk1
          exact Int.lt_of_mul_lt_mul_right hk1 (by omega)
        have : (k : Int) * st + st ≤ z * st := by
          have h3 : ((k : Int) + 1) * st ≤ z * st := Int.mul_le_mul_of_nonneg_right (by omega) (by omega)
          rw [Int.add_mul] at h3
          omega
        rw [Int.mul_comm st z]
        omega)
      (by
        intro x hx
        rcases List.mem_append.mp hx with hx | hx
        · have a1 := hm x hx
          have a2 : x.2 ∣ lcmF 1 (pre.map (·.2)) := lcmF_mem (List.mem_map.mpr ⟨x, hx, rfl⟩)
          rw [← a1]
          refine emod_eq_of_dvd ?_
          have e4 : mv + (k' : Int) * lcmF 1 (pre.map (·.2)) - mv = (k' : Int) * lcmF 1 (pre.map (·.2)) := by omega
          rw [e4]
          exact Int.dvd_trans a2 (Int.dvd_mul_left _ _)
        · obtain rfl := List.mem_singleton.mp hx
          exact q)
    rw [hL] at ih
    generalize lcmF 1 (pre.map (·.2)) = st at *
    simp [op_ii_mul s1 s3, op_ii_div hg s5', lc]
    exact ih
end
theorem compat {bs ms : List Int} (hb : Belt bs) (hl : ms.length = bs.length) (h : firstBad bs ms = none) : ∀ p ∈ ms.zip bs, ∀ q ∈ ms.zip bs, (Int.gcd p.2 q.2 : Int) ∣ q.1 - p.1 := by
  have nb : ∀ i j, i < bs.length → j < bs.length → badP bs ms i j = false → (Int.gcd (bs.getD i 0) (bs.getD j 0) : Int) ∣ ms.getD i 0 - ms.getD j 0 := fun i j hi hj q => by
    have q' : ¬ 0 < (ms.getD i 0 - ms.getD j 0) % (Int.gcd (bs.getD i 0) (bs.getD j 0) : Int) := by simpa [badP] using q
    have hg := gcd_pos' (b := bs.getD j 0) (hb.pos _ (getD_mem hi))
    have := Int.emod_nonneg (ms.getD i 0 - ms.getD j 0) (show (Int.gcd (bs.getD i 0) (bs.getD j 0) : Int) ≠ 0 by omega)
    exact Int.dvd_of_emod_eq_zero (by omega)
  intro p hp q hq
  obtain ⟨i, hi, rfl⟩ := zip_mem_at hp
  obtain ⟨j, hj, rfl⟩ := zip_mem_at hq
  show (Int.gcd (bs.getD i 0) (bs.getD j 0) : Int) ∣ ms.getD j 0 - ms.getD i 0
  rcases Nat.lt_trichotomy i j with h1 | h1 | h1
  · have := nb i j hi hj (firstBad_none h i j h1 hj)
    have e : ms.getD j 0 - ms.getD i 0 = -(ms.getD i 0 - ms.getD j 0) := by omega
    rw [e]
    exact Int.dvd_neg.mpr this
  · subst h1
    simp
  · rw [Int.gcd_comm]
    exact nb j i hj hi (firstBad_none h j i h1 hi)
noncomputable def c_marks_stand := gOf (fun a : List Int × List Int => [tI a.1, tI a.2]) (fun a => Belt a.1 ∧ Marks a.1 a.2) (fun a => standD a.1 a.2)
theorem injTT {xs ys as bs : List Int} (h : [tI xs, tI ys] = [tI as, tI bs]) : xs = as ∧ ys = bs := by
  simp only [List.cons.injEq, PyData.tuple.injEq, and_true] at h
  exact ⟨ints_inj h.1, ints_inj h.2⟩
theorem q_marks_stand {bs ms : List Int} (h : Belt bs) (h2 : Marks bs ms) : c_marks_stand [tI bs, tI ms] = some (standD bs ms) := gOf_eq (f := fun a : List Int × List Int => [tI a.1, tI a.2]) (fun a b h => by rw [(injTT h).1, (injTT h).2]) (a := (bs, ms)) ⟨h, h2⟩
theorem l_marks_stand : ∀ ds d, ds.length = 2 → c_marks_stand ds = some d → m_marks_stand c_shared c_check_marks (seP d) (envP ds 6) := by
  intro ds d _ h
  obtain ⟨⟨bs, ms⟩, ⟨hb, hm⟩, rfl, rfl⟩ := gOf_inv h
  simp only at hb hm
  have hl6 := hb.len
  simp [m_marks_stand, q_check_marks hb hm, rg1_nat (show bs.length ≤ 1000000 by omega)]
  refine fm_out hb hm.len _ _ _ _ rfl rfl (fun i hi => List.mem_range.mp hi) ?_
  unfold standD
  unfold firstBad
  split
  · intro ε
    rfl
  · rename_i hn
    intro s2 s7 h2 h7
    simp [gi_zip]
    refine fm_zip _ (fun mv s4 s5 s6 h0 h1 hx => ?_) hb hm.len hm.lim (compat hb hm.len hn) (ms.zip bs) [] 0 .no .no rfl rfl rfl (by decide) (by decide) (fun p hp => nomatch hp)
    simp [crtV_eq hb hm.len h0 h1 hx]
/-- the number there is, where nothing is in the way -/
theorem crt_exists {ms bs : List Int} (hz : ∀ p ∈ ms.zip bs, 0 ≤ p.1 ∧ p.1 < p.2) (hc : ∀ p ∈ ms.zip bs, ∀ q ∈ ms.zip bs, (Int.gcd p.2 q.2 : Int) ∣ q.1 - p.1) : ∀ (rest pre : List (Int × Int)) (mv : Int), ms.zip bs = pre ++ rest →
    0 ≤ mv → mv < lcmF 1 (pre.map (·.2)) → Meets mv pre → ∃ x, 0 ≤ x ∧ x < lcmF 1 ((ms.zip bs).map (·.2)) ∧ Meets x (ms.zip bs) := by
  intro rest
  induction rest with
  | nil =>
    intro pre mv e h0 h1 hm
    rw [List.append_nil] at e
    rw [e]
    exact ⟨mv, h0, h1, hm⟩
  | cons p rest ih =>
    intro pre mv e h0 h1 hm
    have hp : p ∈ ms.zip bs := by rw [e]; simp
    have hpre : ∀ q ∈ pre, q ∈ ms.zip bs := fun q hq => by rw [e]; exact List.mem_append_left _ hq
    have hpos : ∀ q ∈ ms.zip bs, 0 < q.2 := fun q hq => by have := hz q hq; omega
    have ht := hpos p hp
    have hbp : ∀ b ∈ pre.map (·.2), 0 < b := fun b hb' => by
      obtain ⟨q, hq, rfl⟩ := List.mem_map.mp hb'
      exact hpos q (hpre q hq)
    have hst : 0 < lcmF 1 (pre.map (·.2)) := lcmF_pos (by decide) hbp
    have hdv : (Int.gcd (lcmF 1 (pre.map (·.2))) p.2 : Int) ∣ p.1 - mv := by
      refine gcd_lcmF_dvd ht (by decide) hbp ?_ fun b hb' => ?_
      · rw [Int.one_gcd]
        exact Int.one_dvd _
      · obtain ⟨q, hq, rfl⟩ := List.mem_map.mp hb'
        have a1 := hc q (hpre q hq) p hp
        have a2 : q.2 ∣ q.1 - mv := by
          refine dvd_of_emod_eq ?_
          rw [← hm q hq]
          exact Int.emod_emod_of_dvd _ (Int.dvd_refl _)
        have a3 := Int.dvd_add a1 (Int.dvd_trans (Int.gcd_dvd_left q.2 p.2) a2)
        have e3 : p.1 - q.1 + (q.1 - mv) = p.1 - mv := by omega
        rwa [e3] at a3
    have zp := hz p hp
    obtain ⟨k, hk1, hk2⟩ := steps hst ht zp.1 zp.2 hdv
    have hL : lcmF 1 ((pre ++ [p]).map (·.2)) = (Int.lcm (lcmF 1 (pre.map (·.2))) p.2 : Int) := by
      unfold lcmF
      rw [List.map_append, List.foldl_append]
      rfl
    refine ih (pre ++ [p]) (mv + (k : Int) * lcmF 1 (pre.map (·.2))) (by rw [List.append_assoc]; exact e) ?_ ?_ ?_
    · have : 0 ≤ (k : Int) * lcmF 1 (pre.map (·.2)) := Int.mul_nonneg (by omega) (by omega)
      omega
    · rw [hL]
      have hd : lcmF 1 (pre.map (·.2)) ∣ (Int.lcm (lcmF 1 (pre.map (·.2))) p.2 : Int) := Int.dvd_lcm_left _ _
      obtain ⟨z, hz'⟩ := hd
      rw [hz'] at hk1 ⊢
      generalize lcmF 1 (pre.map (·.2)) = st at *
      have hkz : (k : Int) < z := by
        rw [Int.mul_comm st z] at hk1
        exact Int.lt_of_mul_lt_mul_right hk1 (by omega)
      have : (k : Int) * st + st ≤ z * st := by
        have h3 : ((k : Int) + 1) * st ≤ z * st := Int.mul_le_mul_of_nonneg_right (by omega) (by omega)
        rw [Int.add_mul] at h3
        omega
      rw [Int.mul_comm st z]
      omega
    · intro x hx
      rcases List.mem_append.mp hx with hx | hx
      · have a1 := hm x hx
        have a2 : x.2 ∣ lcmF 1 (pre.map (·.2)) := lcmF_mem (List.mem_map.mpr ⟨x, hx, rfl⟩)
        rw [← a1]
        refine emod_eq_of_dvd ?_
        have e4 : mv + (k : Int) * lcmF 1 (pre.map (·.2)) - mv = (k : Int) * lcmF 1 (pre.map (·.2)) := by omega
        rw [e4]
        exact Int.dvd_trans a2 (Int.dvd_mul_left _ _)
      · obtain rfl := List.mem_singleton.mp hx
        exact hk2
theorem crtV_spec {bs ms : List Int} (hb : Belt bs) (hm : Marks bs ms) (h : firstBad bs ms = none) : 0 ≤ crtV bs ms ∧ crtV bs ms < lcmL bs ∧ Meets (crtV bs ms) (ms.zip bs) := by
  obtain ⟨x, h0, h1, h2⟩ := crt_exists hm.lim (compat hb hm.len h) (ms.zip bs) [] 0 rfl (by decide) (by decide) (fun p hp => nomatch hp)
  rw [List.map_snd_zip (by have := hm.len; omega)] at h1
  rw [crtV_eq hb hm.len h0 h1 h2]
  exact ⟨h0, h1, h2⟩
/-- and where something is in the way, there is none -/
theorem no_meets {bs ms : List Int} (hb : Belt bs) (hl : ms.length = bs.length) {i j : Nat} (hi : i < bs.length) (hj : j < bs.length) (h : badP bs ms i j = true) (x : Int) : ¬ Meets x (ms.zip bs) := by
  intro hx
  have a1 := hx _ (mem_zip_at hl hi)
  have a2 := hx _ (mem_zip_at hl hj)
  simp only at a1 a2
  have d1 : bs.getD i 0 ∣ ms.getD i 0 - x := by
    refine dvd_of_emod_eq ?_
    rw [← a1]
    exact Int.emod_emod_of_dvd _ (Int.dvd_refl _)
  have d2 : bs.getD j 0 ∣ ms.getD j 0 - x := by
    refine dvd_of_emod_eq ?_
    rw [← a2]
    exact Int.emod_emod_of_dvd _ (Int.dvd_refl _)
  have d3 := Int.dvd_sub (Int.dvd_trans (Int.gcd_dvd_left (bs.getD i 0) (bs.getD j 0)) d1) (Int.dvd_trans (Int.gcd_dvd_right (bs.getD i 0) (bs.getD j 0)) d2)
  have e : ms.getD i 0 - x - (ms.getD j 0 - x) = ms.getD i 0 - ms.getD j 0 := by omega
  rw [e] at d3
  have q : 0 < (ms.getD i 0 - ms.getD j 0) % (Int.gcd (bs.getD i 0) (bs.getD j 0) : Int) := by simpa [badP] using h
  have := Int.emod_eq_zero_of_dvd d3
  omega
end K97

set_option Elab.async false
set_option linter.all false
set_option maxRecDepth 100000
set_option maxHeartbeats 4000000
/-! K97d: what stands on marks_stand; slips. -/
namespace K97
open PySem PySem.Spec PyProof.Rows L2 Pd Gen
theorem ts_tup {xs : List D} : toSl (.tuple xs) = if frozenL xs = true then .ow (.tuple xs) else .bo (.tuple xs) := by
  unfold toSl
  rfl
theorem word_ne : ("never" : Str) ≠ ("moved" : Str) := by decide
theorem word_ne' : ("moved" : Str) ≠ ("never" : Str) := by decide
/-! is_marks_stand -/
noncomputable def c_is_marks_stand := gOf (fun a : List Int × List Int => [tI a.1, tI a.2, standD a.1 a.2]) (fun a => Belt a.1 ∧ Marks a.1 a.2) (fun _ => .bool true)
theorem q_is_marks_stand {bs ms : List Int} (h : Belt bs) (h2 : Marks bs ms) : c_is_marks_stand [tI bs, tI ms, standD bs ms] = some (.bool true) := gOf_eq (fun _ _ _ => rfl) (a := (bs, ms)) ⟨h, h2⟩
theorem l_is_marks_stand : ∀ ds d, ds.length = 3 → c_is_marks_stand ds = some d → m_is_marks_stand c_shared c_is_some c_is_within c_round_of c_check_marks (seP d) (envP ds 4) := by
  intro ds d _ h
  obtain ⟨⟨bs, ms⟩, ⟨hb, hm⟩, rfl, rfl⟩ := gOf_inv h
  simp only at hb hm
  have hl6 := hb.len
  have hl := hm.len
  have hc : min ms.length bs.length ≤ cap := Nat.le_trans (Nat.min_le_right _ _) (capL (by omega))
  unfold standD
  cases q : firstBad bs ms with
  | none =>
    obtain ⟨h0, h1, h2⟩ := crtV_spec hb hm q
    simp [m_is_marks_stand, q_check_marks hb hm, ts_tup, q_round_of hb, q_is_within h0 (show crtV bs ms ≤ lcmL bs - 1 by omega), hl, gi_zip, capL (show bs.length ≤ 1000 by omega)]
    rw [lcMap (h := fun _ => .bool true)]
    · simp
    · intro p hp
      have := hm.lim p hp
      simp [op_ii_mod (show 0 < p.2 by omega), h2 p hp]
  | some p =>
    obtain ⟨i, j⟩ := p
    obtain ⟨h1, h2, h3⟩ := firstBad_some q
    have e1 := get_ix (bs := bs) (show i < bs.length by omega)
    have e2 := get_ix (bs := bs) h2
    have e3 := get_ix (bs := ms) (show i < ms.length by omega)
    have e4 := get_ix (bs := ms) (show j < ms.length by omega)
    have hg := gcd_pos' (b := bs.getD j 0) (hb.pos _ (getD_mem (show i < bs.length by omega)))
    have h3' : 0 < (ms.getD i 0 - ms.getD j 0) % (Int.gcd (bs.getD i 0) (bs.getD j 0) : Int) := by simpa [badP] using h3
    have hs : c_is_some [.tuple [.int (i : Int), .int (j : Int)], .int 2, .int 2, .int 0, .int ((bs.length : Int) - 1)] = some (.bool true) := q_is_some (xs := [(i : Int), (j : Int)]) (n := 2) (m := 2) (by simp) (by simp) (by simp) (fun x hx => by
      simp only [List.mem_cons, List.not_mem_nil, or_false] at hx
      rcases hx with rfl | rfl <;> omega)
    generalize bs.getD i 0 = x1 at *
    generalize bs.getD j 0 = x2 at *
    generalize ms.getD i 0 = x3 at *
    generalize ms.getD j 0 = x4 at *
    simp [m_is_marks_stand, q_check_marks hb hm, ts_tup, word_ne, hs, e1, e2, e3, e4, op_ii_mod hg, h3', show ¬ (j : Int) ≤ (i : Int) by omega]
/-! next_stand -/
noncomputable def nextV (bs ms : List Int) (m : Int) : Int := if m < crtV bs ms then crtV bs ms else crtV bs ms + ((m - crtV bs ms) / lcmL bs + 1) * lcmL bs
noncomputable def c_next_stand := gOf (fun a : List Int × List Int × Int => [tI a.1, tI a.2.1, .int a.2.2]) (fun a => Belt a.1 ∧ Marks a.1 a.2.1 ∧ 0 ≤ a.2.2 ∧ a.2.2 ≤ 100000000000000000000) (fun a => if firstBad a.1 a.2.1 = none then .int (nextV a.1 a.2.1 a.2.2) else .none)
theorem q_next_stand {bs ms : List Int} {m : Int} (h : Belt bs) (h2 : Marks bs ms) (h3 : 0 ≤ m) (h4 : m ≤ 100000000000000000000) : c_next_stand [tI bs, tI ms, .int m] = some (if firstBad bs ms = none then .int (nextV bs ms m) else .none) :=
  gOf_eq (f := fun a : List Int × List Int × Int => [tI a.1, tI a.2.1, .int a.2.2]) (fun a b h => by
    simp only [List.cons.injEq, PyData.tuple.injEq, PyData.int.injEq, and_true] at h
    rw [ints_inj h.1, ints_inj h.2.1, h.2.2]) (a := (bs, ms, m)) ⟨h, h2, h3, h4⟩
theorem l_next_stand : ∀ ds d, ds.length = 3 → c_next_stand ds = some d → m_next_stand c_round_of c_check_moved c_marks_stand (seP d) (envP ds 3) := by
  intro ds d _ h
  obtain ⟨⟨bs, ms, m⟩, ⟨hb, hm, h0, h1⟩, rfl, rfl⟩ := gOf_inv h
  simp only at hb hm h0 h1
  cases q : firstBad bs ms with
  | some p =>
    simp [m_next_stand, q_marks_stand hb hm, standD, q, q_check_moved h0 h1]
  | none =>
    obtain ⟨c0, c1, c2⟩ := crtV_spec hb hm q
    have hL := hb.lcm_pos
    have hLe := hb.lcm_le
    have d0 : -(10 ^ 100 : Int) ≤ (m - crtV bs ms) / lcmL bs + 1 := by
      have : -4096000000000000 ≤ (m - crtV bs ms) / lcmL bs := by
        refine Int.le_ediv_of_mul_le hL ?_
        have : -4096000000000000 * lcmL bs ≤ -4096000000000000 * 1 := Int.mul_le_mul_of_nonpos_left (by omega) (by omega)
        omega
      omega
    have d1 : (m - crtV bs ms) / lcmL bs + 1 ≤ 10 ^ 100 := by
      have : (m - crtV bs ms) / lcmL bs ≤ 100000000000000000000 := by
        by_cases h : 0 ≤ m - crtV bs ms
        · have := Int.ediv_le_self (lcmL bs) h
          omega
        · have := Int.ediv_neg_of_neg_of_pos (show m - crtV bs ms < 0 by omega) hL
          omega
      omega
    by_cases hlt : m < crtV bs ms
    · simp [m_next_stand, q_marks_stand hb hm, standD, q, q_check_moved h0 h1, word_ne', q_round_of hb, nextV, hlt]
    · simp [m_next_stand, q_marks_stand hb hm, standD, q, q_check_moved h0 h1, word_ne', q_round_of hb, nextV, hlt, op_ii_div hL hb.sm, op_ii_mul (sm_small d0 d1) hb.sm]
/-! all_agree -/
def agree (bs ms : List Int) (ws : List Nat) : Bool := ws.all fun i => ws.all fun j => !badP bs ms i j
abbrev nI (ws : List Nat) : List D := ws.map fun i : Nat => PyData.int (i : Int)
theorem nI_inj : ∀ {xs ys : List Nat}, nI xs = nI ys → xs = ys
  | [], [], _ => rfl
  | [], _ :: _, h => by simp at h
  | _ :: _, [], h => by simp at h
  | x :: xs, y :: ys, h => by
    simp only [nI, List.map_cons, List.cons.injEq, PyData.int.injEq] at h
    rw [show x = y by omega, nI_inj h.2]
section
variable {bs ms : List Int}
abbrev bodyAg : FS := sIf (mT (tst (e2 cmpGt (e2 gMod (e2 Pd.gSub (e2 gIx (eVar 1) (eVar 3)) (e2 gIx (eVar 1) (eVar 4))) (eFn 2 c_shared (aCons (e2 gIx (eVar 0) (eVar 3)) (aCons (e2 gIx (eVar 0) (eVar 4)) aNil)))) (eC (.int 0))))) (sRet (mP (eC (.bool false)))) sNext
theorem fm_ag (hb : Belt bs) (hl : ms.length = bs.length) {W : D} {i : Nat} (hi : i < bs.length) (S : SE) : ∀ (js : List Nat) (s4 : Slot), notIo (some s4) = true → (∀ j ∈ js, j < bs.length) →
    (if (js.all fun j => !badP bs ms i j) = true then ∀ s4, notIo (some s4) = true → S.nx [.ow (tI bs), .ow (tI ms), .bo W, .ow (.int (i : Int)), s4] else ∀ ε, S.rt (.bool false) ε) →
    forM (bbName 4) bodyAg (nI js) S [.ow (tI bs), .ow (tI ms), .bo W, .ow (.int (i : Int)), s4] := by
  intro js
  induction js with
  | nil =>
    intro s4 h4 _ h
    simp only [List.all_nil, if_true] at h
    simpa using h s4 h4
  | cons j js ih =>
    intro s4 h4 hj h
    have hj0 := hj j List.mem_cons_self
    have e1 := get_ix (bs := bs) hi
    have e2 := get_ix (bs := bs) hj0
    have e3 := get_ix (bs := ms) (show i < ms.length by omega)
    have e4 := get_ix (bs := ms) (show j < ms.length by omega)
    have hg := gcd_pos' (b := bs.getD j 0) (hb.pos _ (getD_mem hi))
    simp only [nI, List.map_cons]
    rw [ev_fcons]
    rw [List.all_cons] at h
    by_cases hp : badP bs ms i j = true
    · rw [hp] at h
      have hp' : 0 < (ms.getD i 0 - ms.getD j 0) % (Int.gcd (bs.getD i 0) (bs.getD j 0) : Int) := by simpa [badP] using hp
      generalize bs.getD i 0 = x1 at *
      generalize bs.getD j 0 = x2 at *
      generalize ms.getD i 0 = x3 at *
      generalize ms.getD j 0 = x4 at *
      simp [h4, e1, e2, e3, e4, op_ii_mod hg, hp']
      exact h _
    · have hp0 : badP bs ms i j = false := by simpa using hp
      rw [hp0] at h
      have hp' : ¬ 0 < (ms.getD i 0 - ms.getD j 0) % (Int.gcd (bs.getD i 0) (bs.getD j 0) : Int) := by simpa [badP] using hp0
      have ih2 := ih (.ow (.int (j : Int))) rfl (fun x hx => hj x (List.mem_cons_of_mem _ hx)) (by simpa using h)
      generalize bs.getD i 0 = x1 at *
      generalize bs.getD j 0 = x2 at *
      generalize ms.getD i 0 = x3 at *
      generalize ms.getD j 0 = x4 at *
      simp [h4, e1, e2, e3, e4, op_ii_mod hg, hp']
      exact ih2
theorem fm_ag2 (hb : Belt bs) (hl : ms.length = bs.length) (ws : List Nat) (hw : ∀ j ∈ ws, j < bs.length) (S : SE) : ∀ (is : List Nat) (s3 s4 : Slot), notIo (some s3) = true → notIo (some s4) = true → (∀ j ∈ is, j < bs.length) →
    (if (is.all fun i => ws.all fun j => !badP bs ms i j) = true then ∀ s3 s4, S.nx [.ow (tI bs), .ow (tI ms), .bo (.list (nI ws)), s3, s4] else ∀ ε, S.rt (.bool false) ε) →
    forM (bbName 3) (sFor (miSelf (mLend 2)) (bbName 4) bodyAg) (nI is) S [.ow (tI bs), .ow (tI ms), .bo (.list (nI ws)), s3, s4] := by
  intro is
  induction is with
  | nil =>
    intro s3 s4 h3 h4 _ h
    simp only [List.all_nil, if_true] at h
    simpa using h s3 s4
  | cons i is ih =>
    intro s3 s4 h3 h4 hi h
    have hi0 := hi i List.mem_cons_self
    simp only [nI, List.map_cons]
    rw [ev_fcons]
    rw [List.all_cons] at h
    simp only [ev_bbname, List.getElem?_cons_succ, List.getElem?_cons_zero, h3, if_true, ev_os, List.set_cons_succ, List.set_cons_zero, ts_int, ev_for, ev_miself, ev_lendS, ev_lend0b, Option.map_some, Option.bind_some, it_l]
    refine fm_ag hb hl hi0 _ ws s4 h4 hw ?_
    by_cases hp : (ws.all fun j => !badP bs ms i j) = true
    · rw [if_pos hp]
      rw [hp, Bool.true_and] at h
      exact fun s4 h4 => ih _ s4 rfl h4 (fun x hx => hi x (List.mem_cons_of_mem _ hx)) h
    · rw [if_neg hp]
      have hp0 : (ws.all fun j => !badP bs ms i j) = false := by simpa using hp
      rw [hp0, Bool.false_and, if_neg Bool.false_ne_true] at h
      exact h
end
noncomputable def c_all_agree := gOf (fun a : List Int × List Int × List Nat => [tI a.1, tI a.2.1, .list (nI a.2.2)]) (fun a => Belt a.1 ∧ Marks a.1 a.2.1 ∧ ∀ w ∈ a.2.2, w < a.1.length) (fun a => .bool (agree a.1 a.2.1 a.2.2))
theorem q_all_agree {bs ms : List Int} {ws : List Nat} (h : Belt bs) (h2 : Marks bs ms) (h3 : ∀ w ∈ ws, w < bs.length) : c_all_agree [tI bs, tI ms, .list (nI ws)] = some (.bool (agree bs ms ws)) :=
  gOf_eq (f := fun a : List Int × List Int × List Nat => [tI a.1, tI a.2.1, .list (nI a.2.2)]) (fun a b h => by
    simp only [List.cons.injEq, PyData.tuple.injEq, PyData.list.injEq, and_true] at h
    rw [ints_inj h.1, ints_inj h.2.1, nI_inj h.2.2]) (a := (bs, ms, ws)) ⟨h, h2, h3⟩
theorem l_all_agree : ∀ ds d, ds.length = 3 → c_all_agree ds = some d → m_all_agree c_shared (seP d) (envP ds 2) := by
  intro ds d _ h
  obtain ⟨⟨bs, ms, ws⟩, ⟨hb, hm, hw⟩, rfl, rfl⟩ := gOf_inv h
  simp only at hb hm hw
  simp [m_all_agree]
  refine fm_ag2 hb hm.len ws hw _ ws _ _ rfl rfl hw ?_
  unfold agree
  split
  · rename_i hh
    intro s3 s4
    simp [hh]
  · rename_i hh
    intro ε
    have : (ws.all fun i => ws.all fun j => !badP bs ms i j) = false := by simpa using hh
    simp [this]
/-! slipped -/
noncomputable def c_slipped := gOf (fun a : List Int × List Int × Nat × Int => [tI a.1, tI a.2.1, .int (a.2.2.1 : Int), .int a.2.2.2]) (fun a => Belt a.1 ∧ Marks a.1 a.2.1 ∧ a.2.2.1 < a.1.length ∧ -400 ≤ a.2.2.2 ∧ a.2.2.2 ≤ 400) (fun a => tI (a.2.1.set a.2.2.1 ((a.2.1.getD a.2.2.1 0 + a.2.2.2) % a.1.getD a.2.2.1 0)))
theorem q_slipped {bs ms : List Int} {w : Nat} {t : Int} (h : Belt bs) (h2 : Marks bs ms) (h3 : w < bs.length) (h4 : -400 ≤ t) (h5 : t ≤ 400) : c_slipped [tI bs, tI ms, .int (w : Int), .int t] = some (tI (ms.set w ((ms.getD w 0 + t) % bs.getD w 0))) :=
  gOf_eq (f := fun a : List Int × List Int × Nat × Int => [tI a.1, tI a.2.1, .int (a.2.2.1 : Int), .int a.2.2.2]) (fun a b h => by
    simp only [List.cons.injEq, PyData.tuple.injEq, PyData.int.injEq, and_true] at h
    rw [ints_inj h.1, ints_inj h.2.1, show a.2.2.1 = b.2.2.1 by omega, h.2.2.2]) (a := (bs, ms, w, t)) ⟨h, h2, h3, h4, h5⟩
theorem cut_l {α : Type} {xs : List α} {k : Nat} (h : k ≤ xs.length) : cutL xs none (some (k : Int)) = xs.take k := by
  unfold cutL
  rw [HT.sIx_nat, HT.sIx_none, List.drop_zero]
  congr 1
  omega
theorem cut_r {α : Type} {xs : List α} {k : Nat} (h : k ≤ xs.length) : cutL xs (some (k : Int)) none = xs.drop k := by
  unfold cutL
  rw [HT.sIx_nat, HT.sIx_none, Nat.min_eq_left h]
  exact List.take_of_length_le (by simp)
theorem set_cut : ∀ {xs : List Int} {k : Nat} {v : Int}, k < xs.length → xs.take k ++ v :: xs.drop (k + 1) = xs.set k v
  | x :: xs, 0, v, h => by simp
  | x :: xs, k + 1, v, h => by
    have := set_cut (xs := xs) (k := k) (v := v) (by simpa using h)
    simp [this]
theorem add3 {l1 l2 : List Int} {v : Int} (h : l1.length + 1 + l2.length ≤ 1000) : (gAdd (tI l1) (.tuple [.int v])).bind (fun x => gAdd x (tI l2)) = some (tI (l1 ++ v :: l2)) := by
  have hc : (1000 : Nat) ≤ cap := by decide
  have c1 : (l1.map PyData.int).length + [PyData.int v].length ≤ cap := by
    simp
    omega
  have g1 : gAdd (tI l1) (.tuple [.int v]) = some (.tuple (l1.map .int ++ [.int v])) := if_pos ⟨c1, fz_ints, by simp⟩
  have c2 : (l1.map PyData.int ++ [PyData.int v]).length + (l2.map PyData.int).length ≤ cap := by
    simp
    omega
  rw [g1, Option.bind_some]
  refine (if_pos ⟨c2, by simp, fz_ints⟩).trans ?_
  simp
theorem l_slipped : ∀ ds d, ds.length = 4 → c_slipped ds = some d → m_slipped c_is_within c_check_marks (seP d) (envP ds 0) := by
  intro ds d _ h
  obtain ⟨⟨bs, ms, w, t⟩, ⟨hb, hm, hw, h4, h5⟩, rfl, rfl⟩ := gOf_inv h
  simp only at hb hm hw h4 h5
  have hl6 := hb.len
  have hl := hm.len
  have e1 := get_ix (bs := bs) hw
  have e3 := get_ix (bs := ms) (show w < ms.length by omega)
  have hp := hb.pos _ (getD_mem hw)
  have sl1 : gSl (tI ms) none (some (w : Int)) = some (tI (ms.take w)) := by
    show (if frozenL (ms.map PyData.int) = true then some (PyData.tuple (cutL (ms.map PyData.int) none (some (w : Int)))) else none) = _
    rw [if_pos fz_ints, cut_l (by simp; omega), tI, List.map_take]
  have sl2 : gSl (tI ms) (some ((w : Int) + 1)) none = some (tI (ms.drop (w + 1))) := by
    show (if frozenL (ms.map PyData.int) = true then some (PyData.tuple (cutL (ms.map PyData.int) (some ((w + 1 : Nat) : Int)) none)) else none) = _
    rw [if_pos fz_ints, cut_r (by simp; omega), tI, List.map_drop]
  have hset := set_cut (xs := ms) (k := w) (v := (ms.getD w 0 + t) % bs.getD w 0) (by omega)
  have hlen : (ms.take w).length + 1 + (ms.drop (w + 1)).length ≤ 1000 := by
    simp
    omega
  generalize ms.set w ((ms.getD w 0 + t) % bs.getD w 0) = rs at *
  generalize bs.getD w 0 = x1 at *
  generalize ms.getD w 0 = x3 at *
  generalize ms.take w = l1 at *
  generalize ms.drop (w + 1) = l2 at *
  have ad := add3 (v := (x3 + t) % x1) hlen
  rw [hset] at ad
  obtain ⟨z, z1, z2⟩ := bindSome ad
  simp only [tI] at z1 z2 sl1 sl2 e1 e3
  simp [m_slipped, q_check_marks hb hm, q_is_within (show (0 : Int) ≤ (w : Int) by omega) (show (w : Int) ≤ (bs.length : Int) - 1 by omega), q_is_within h4 h5, e1, e3, op_ii_mod hp, sl1, sl2, z1, z2]
end K97

set_option Elab.async false
set_option linter.all false
set_option maxRecDepth 100000
set_option maxHeartbeats 4000000
/-! K97e: slips_for. -/
namespace K97
open PySem PySem.Spec PyProof.Rows L2 Pd Gen
@[simp] theorem fz_nI {ws : List Nat} : frozenL (nI ws) = true := fz_map (fun _ => rfl) ws
abbrev tN (ws : List Nat) : D := .tuple (nI ws)
def lotsN : Nat → List (List Nat)
  | 0 => [[]]
  | k + 1 => lotsN k ++ (lotsN k).map fun ws => ws ++ [k]
theorem lots_lt : ∀ {k : Nat} {ws : List Nat}, ws ∈ lotsN k → ∀ w ∈ ws, w < k
  | 0, ws, h, w, hw => by
    simp [lotsN] at h
    subst h
    cases hw
  | k + 1, ws, h, w, hw => by
    simp only [lotsN, List.mem_append, List.mem_map] at h
    rcases h with h | ⟨vs, h, rfl⟩
    · have := lots_lt h w hw
      omega
    · rcases List.mem_append.mp hw with hw | hw
      · have := lots_lt h w hw
        omega
      · have := List.mem_singleton.mp hw
        omega
theorem lots_len : ∀ k : Nat, (lotsN k).length = 2 ^ k
  | 0 => rfl
  | k + 1 => by simp [lotsN, lots_len k, Nat.pow_succ]; omega
theorem lots_le : ∀ {k : Nat} {ws : List Nat}, ws ∈ lotsN k → ws.length ≤ k
  | 0, ws, h => by simp [lotsN] at h; subst h; simp
  | k + 1, ws, h => by
    simp only [lotsN, List.mem_append, List.mem_map] at h
    rcases h with h | ⟨vs, h, rfl⟩
    · have := lots_le h
      omega
    · have := lots_le h
      simp
      omega
def restN (n : Nat) (lot : List Nat) : List Nat := (List.range n).filter fun i => decide (i ∉ lot)
theorem lots_rest : ∀ {k : Nat} {ws : List Nat}, ws ∈ lotsN k → ws.length + (restN k ws).length = k
  | 0, ws, h => by simp [lotsN] at h; subst h; simp [restN]
  | k + 1, ws, h => by
    simp only [lotsN, List.mem_append, List.mem_map] at h
    rcases h with h | ⟨vs, h, rfl⟩
    · have ih := lots_rest h
      have hk : k ∉ ws := fun z => by have := lots_lt h k z; omega
      unfold restN at ih ⊢
      rw [List.range_succ, List.filter_append, List.length_append]
      simp [hk]
      simp at ih
      omega
    · have ih := lots_rest h
      have e : (List.range k).filter (fun i => decide (i ∉ vs ++ [k])) = (List.range k).filter fun i => decide (i ∉ vs) := by
        refine List.filter_congr fun i hi => ?_
        have := List.mem_range.mp hi
        have hne : i ≠ k := by omega
        simp [hne]
      unfold restN at ih ⊢
      rw [List.range_succ, List.filter_append, List.length_append, e]
      simp
      simp at ih
      omega
theorem lots_nil : ∀ k : Nat, [] ∈ lotsN k
  | 0 => by simp [lotsN]
  | k + 1 => by simp [lotsN, lots_nil k]
theorem lots_all : ∀ k : Nat, List.range k ∈ lotsN k
  | 0 => by simp [lotsN]
  | k + 1 => by
    rw [List.range_succ]
    simp only [lotsN, List.mem_append, List.mem_map]
    exact .inr ⟨_, lots_all k, rfl⟩
abbrev pairD (ws : List Nat) : D := .tuple [.int (ws.length : Int), tN ws]
noncomputable def srtN (n : Nat) : List (List Nat) := (lotsN n).mergeSort fun a b => W.dataLe false id (pairD a) (pairD b)
theorem srt_perm (n : Nat) : (srtN n).Perm (lotsN n) := List.mergeSort_perm _ _
theorem srt_eq (n : Nat) : (srtN n).map pairD = ((lotsN n).map pairD).mergeSort (W.dataLe false id) := List.map_mergeSort fun _ _ _ _ => rfl
theorem pair_lt {ws : List Nat} (h : ws ≠ []) : W.dataLt (pairD []) (pairD ws) = true := by
  have hl : 0 < ws.length := List.length_pos_iff.mpr h
  rw [W.dataLt_tuple]
  have e : PyData.eqv (.int (([] : List Nat).length : Int)) (.int (ws.length : Int)) = false := by
    show ((0 : Int) == (ws.length : Int)) = false
    simp
    omega
  rw [W.dataLt_all_no rfl e, W.dataLt_int]
  simp
  omega
theorem le_trans' (a b c : D) (h1 : W.dataLe false id a b = true) (h2 : W.dataLe false id b c = true) : W.dataLe false id a c = true := (W.sortLe_total _ false _).trans a b c h1 h2
theorem le_total' (a b : D) : (W.dataLe false id a b || W.dataLe false id b a) = true := by
  rw [Bool.or_eq_true]
  exact (W.sortLe_total _ false _).total a b
theorem srt_head (n : Nat) : ∃ tl, srtN n = [] :: tl := by
  have hp := srt_perm n
  cases q : srtN n with
  | nil =>
    rw [q] at hp
    have := hp.length_eq
    rw [lots_len] at this
    have h2 : 0 < 2 ^ n := Nat.pow_pos (by decide)
    simp at this
    omega
  | cons h tl =>
    by_cases hh : h = []
    · exact ⟨tl, by rw [hh]⟩
    · have pw : ((srtN n).map pairD).Pairwise fun a b => W.dataLe false id a b = true := by
        rw [srt_eq]
        exact List.pairwise_mergeSort le_trans' le_total' _
      rw [q] at pw hp
      have hm : [] ∈ h :: tl := hp.mem_iff.mpr (lots_nil n)
      rcases List.mem_cons.mp hm with e | hm
      · exact absurd e.symm hh
      · rw [List.map_cons, List.pairwise_cons] at pw
        have := pw.1 (pairD []) (List.mem_map.mpr ⟨[], hm, rfl⟩)
        rw [W.dataLe_eq] at this
        have l := pair_lt hh
        simp only [cond_false, id] at this
        rw [l] at this
        cases this
theorem gl_sorted {L : List D} (h1 : alikeB L = true) (h2 : allTup1 L = true) (h3 : frozenL L = true) (h4 : shalL L = true) (h5 : L.length ≤ cap) : gSorted [.list L] = some (.list (L.mergeSort (W.dataLe false id))) := by
  show (if _ then _ else _) = _
  rw [if_pos]
  simp [h1, h2, h3, h4, h5]
theorem alikeAll_ints : ∀ xs ys : List Nat, W.alikeAll (nI xs) (nI ys) = true
  | [], _ => by cases ‹List Nat› <;> rfl
  | _ :: _, [] => rfl
  | x :: xs, y :: ys => by
    show (W.alike (.int (x : Int)) (.int (y : Int)) && W.alikeAll (nI xs) (nI ys)) = true
    rw [alikeAll_ints xs ys]
    rfl
theorem sorted_pairs (n : Nat) (h : n ≤ 6) : gSorted [.list ((lotsN n).map pairD)] = some (.list ((srtN n).map pairD)) := by
  rw [gl_sorted, srt_eq]
  · unfold alikeB
    simp only [List.all_eq_true]
    intro x hx y hy
    obtain ⟨a, _, rfl⟩ := List.mem_map.mp hx
    obtain ⟨b, _, rfl⟩ := List.mem_map.mp hy
    show (W.alike (.int (a.length : Int)) (.int (b.length : Int)) && (W.alike (tN a) (tN b) && W.alikeAll [] [])) = true
    have : W.alike (tN a) (tN b) = true := alikeAll_ints a b
    rw [this]
    rfl
  · unfold allTup1
    simp only [List.all_eq_true]
    intro x hx
    obtain ⟨a, _, rfl⟩ := List.mem_map.mp hx
    rfl
  · refine fz_map (fun ws => ?_) _
    simp
  · unfold shalL
    simp only [List.all_eq_true]
    intro x hx
    obtain ⟨a, _, rfl⟩ := List.mem_map.mp hx
    rw [decide_eq_true_eq]
    refine (okD_tup (n := 39) fun y hy => ?_).2
    simp only [List.mem_cons, List.not_mem_nil, or_false] at hy
    rcases hy with rfl | rfl
    · exact okD_int
    · refine okD_tup fun z hz => ?_
      obtain ⟨k, _, rfl⟩ := List.mem_map.mp hz
      exact okD_int
  · rw [List.length_map, lots_len]
    have : n = 0 ∨ n = 1 ∨ n = 2 ∨ n = 3 ∨ n = 4 ∨ n = 5 ∨ n = 6 := by omega
    rcases this with rfl | rfl | rfl | rfl | rfl | rfl | rfl <;> decide
/-! the two loops -/
section
variable {bs ms : List Int}
theorem frz_tN {ws : List Nat} : frozen (tN ws) = true := fz_map (fun _ => rfl) ws
abbrev bodyLots : FS := sSet 2 (mP (e2 gAdd (eVar 2) (eLc [5] (iSelf (eVar 2)) (bName 5) bTrue (e2 gAdd (eVar 5) (eTup (aCons (eFrz (eVar 3)) aNil))))))
theorem fm_lots (S : SE) {A0 A1 s4 : Slot} : ∀ (m k : Nat) (s3 : Slot), k + m ≤ 6 → notIo (some s3) = true → (∀ s3, notIo (some s3) = true → S.nx [A0, A1, .ow (.list ((lotsN (k + m)).map tN)), s3, s4, .no]) →
    forM (bbName 3) bodyLots ((List.range' k m).map fun i : Nat => PyData.int (i : Int)) S [A0, A1, .ow (.list ((lotsN k).map tN)), s3, s4, .no] := by
  intro m
  induction m with
  | zero =>
    intro k s3 _ h3 h
    simpa using h s3 h3
  | succ m ih =>
    intro k s3 hk h3 h
    have hcap : ∀ j : Nat, j ≤ 6 → (lotsN j).length ≤ 1000 := fun j hj => by
      rw [lots_len]
      have : j = 0 ∨ j = 1 ∨ j = 2 ∨ j = 3 ∨ j = 4 ∨ j = 5 ∨ j = 6 := by omega
      rcases this with rfl | rfl | rfl | rfl | rfl | rfl | rfl <;> decide
    have c1 : (lotsN k).length ≤ cap := capL (hcap k (by omega))
    have ih2 := ih (k + 1) (.ow (.int (k : Int))) (by omega) rfl (fun s3 h3 => by
      have e : k + 1 + m = k + (m + 1) := by omega
      rw [e]
      exact h s3 h3)
    rw [List.range'_succ, List.map_cons, ev_fcons]
    have lc : compL (bName 5) bTrue (e2 gAdd (eVar 5) (eTup (aCons (eFrz (eVar 3)) aNil))) [A0, A1, .ow (.list ((lotsN k).map tN)), .ow (.int (k : Int)), s4, .no] ((lotsN k).map tN) = some ((lotsN k).map fun ws => tN (ws ++ [k])) := by
      refine lcMap fun ws hws => ?_
      have hw := lots_le hws
      have g : gAdd (tN ws) (.tuple [.int (k : Int)]) = some (tN (ws ++ [k])) := by
        refine (if_pos ⟨?_, frz_tN, by simp⟩).trans ?_
        · simp [tN, nI]
        · refine capL ?_
          simp
          omega
      simp only [tN] at g
      simp [g]
    have ad : gAdd (.list ((lotsN k).map tN)) (.list ((lotsN k).map fun ws => tN (ws ++ [k]))) = some (.list ((lotsN (k + 1)).map tN)) := by
      refine (if_pos ⟨?_, fz_map (fun _ => frz_tN) _, fz_map (fun _ => frz_tN) _⟩).trans ?_
      · simp [lotsN]
      · refine capL ?_
        have := hcap (k + 1) (by omega)
        rw [lots_len] at this
        simp [lots_len]
        rw [Nat.pow_succ] at this
        omega
    simp [h3, c1]
    rw [lc]
    simp
    rw [ad]
    simp
    exact ih2
/-- the first lot that leaves wheels that agree -/
noncomputable def slipLot (bs ms : List Int) : List Nat := ((srtN bs.length).find? fun lot => agree bs ms (restN bs.length lot)).getD []
theorem rest_lt {n : Nat} {lot : List Nat} : ∀ w ∈ restN n lot, w < n := fun w hw => List.mem_range.mp (List.mem_filter.mp hw).1
theorem nI_ints (ws : List Nat) : nI ws = (ws.map fun i : Nat => (i : Int)).map .int := by simp
theorem nin_lot {i : Nat} {lot : List Nat} : cmpNin (.int (i : Int)) (tN lot) = some (.bool (decide (i ∉ lot))) := by
  have e : tN lot = tI (lot.map fun i : Nat => (i : Int)) := by simp [tN, nI]
  rw [e, cni_it]
  congr 2
  have : ((i : Int) ∈ lot.map fun i : Nat => (i : Int)) ↔ i ∈ lot := by
    rw [List.mem_map]
    constructor
    · rintro ⟨j, hj, e⟩
      have : j = i := by omega
      rwa [← this]
    · intro h
      exact ⟨i, h, rfl⟩
  by_cases h : i ∈ lot
  · rw [decide_eq_true (this.mpr h)]; simp [h]
  · rw [decide_eq_false (fun z => h (this.mp z))]; simp [h]
theorem lc_rest {n : Nat} {lot : List Nat} {A0 A1 A2 s3 s4 : Slot} : compL (bName 3) (tst (e2 cmpNin (eVar 3) (eVar 5))) (eFrz (eVar 3)) [A0, A1, A2, s3, s4, .ow (tN lot)] ((List.range n).map fun i : Nat => PyData.int (i : Int)) = some (nI (restN n lot)) := by
  rw [lcFilter (p := fun i : Nat => decide (i ∉ lot)) (h := fun i : Nat => .int (i : Int))]
  · rfl
  · intro i _
    have e := nin_lot (i := i) (lot := lot)
    simp only [tN] at e
    simp only [ev_bname, List.set_cons_succ, List.set_cons_zero, Option.bind_some, ev_tst, ev_e2, ev_var, ev_getS, ev_get0, ev_val2, ev_val1, e, ev_toB, ev_frz, fz_int, if_true, Option.map_some]
    by_cases h : i ∈ lot <;> simp [h]
abbrev bodyPick : FS := sIf (mT (tst (eFn 3 c_all_agree (aCons (eVar 0) (aCons (eVar 1) (aCons (eLc [3] (iOf giRg1 (aCons (eCall gLen (aCons (eVar 0) aNil)) aNil)) (bName 3) (tst (e2 cmpNin (eVar 3) (eVar 5))) (eFrz (eVar 3))) aNil)))))) (sRet (mVar 5)) sNext
theorem fm_pick (hb : Belt bs) (hm : Marks bs ms) {A2 : Slot} (S : SE) : ∀ (lots : List (List Nat)) (s3 s4 s5 : Slot), notIo (some s4) = true → notIo (some s5) = true →
    (match lots.find? fun lot => agree bs ms (restN bs.length lot) with
      | some lot => ∀ ε, S.rt (tN lot) ε
      | none => False) →
    forM (bTup (bCons (bbName 4) (bCons (bbName 5) bNil))) bodyPick (lots.map pairD) S [.ow (tI bs), .ow (tI ms), A2, s3, s4, s5] := by
  intro lots
  induction lots with
  | nil =>
    intro s3 s4 s5 _ _ h
    exact h.elim
  | cons lot lots ih =>
    intro s3 s4 s5 h4 h5 h
    have hl6 := hb.len
    have c1 : bs.length ≤ cap := capL (by omega)
    have rg := rg1_nat (show bs.length ≤ 1000000 by omega)
    have qa := q_all_agree hb hm (ws := restN bs.length lot) rest_lt
    have t5 : toSl (tN lot) = .ow (tN lot) := ts_frz frz_tN
    rw [List.find?_cons] at h
    rw [List.map_cons, ev_fcons]
    simp only [ev_btup, ev_bcons, ev_bnil, ev_bbname, List.getElem?_cons_succ, List.getElem?_cons_zero, h4, h5, if_true, ev_os, List.set_cons_succ, List.set_cons_zero, ts_int, t5, Option.bind_some, bodyPick, ev_if, ev_mT, ev_tst, ev_fn, ev_acons, ev_anil, ev_var, ev_get0, ev_getS, ev_val1, ev_lc, ev_iof, ev_call, ln_t, List.length_map, rg, List.length_range, c1, ev_wipeS, ev_wipe0, lc_rest, Option.map_some, List.length_cons, List.length_nil, qa, ev_toB]
    cases q : agree bs ms (restN bs.length lot) with
    | true =>
      rw [q] at h
      simp
      exact h _
    | false =>
      rw [q] at h
      simp
      exact ih _ _ _ rfl rfl h
theorem slip_find (hb : Belt bs) : ∃ lot, ((srtN bs.length).find? fun lot => agree bs ms (restN bs.length lot)) = some lot := by
  cases q : (srtN bs.length).find? fun lot => agree bs ms (restN bs.length lot) with
  | some lot => exact ⟨lot, rfl⟩
  | none =>
    rw [List.find?_eq_none] at q
    have := q (List.range bs.length) ((srt_perm _).mem_iff.mpr (lots_all _))
    have e : restN bs.length (List.range bs.length) = [] := by
      unfold restN
      rw [List.filter_eq_nil_iff]
      intro i hi
      simpa using hi
    rw [e] at this
    exact absurd rfl this
theorem slip_spec (hb : Belt bs) : slipLot bs ms ∈ lotsN bs.length ∧ agree bs ms (restN bs.length (slipLot bs ms)) = true := by
  obtain ⟨lot, e⟩ := slip_find (ms := ms) hb
  unfold slipLot
  rw [e]
  have e2 := List.find?_some e
  exact ⟨(srt_perm _).mem_iff.mp (List.mem_of_find?_eq_some e), e2⟩
theorem slip_nil (hb : Belt bs) (h : agree bs ms (List.range bs.length) = true) : slipLot bs ms = [] := by
  obtain ⟨tl, e⟩ := srt_head bs.length
  have r : restN bs.length [] = List.range bs.length := by
    unfold restN
    rw [List.filter_eq_self]
    intro i _
    simp
  unfold slipLot
  rw [e, List.find?_cons, r, h]
  rfl
end
noncomputable def c_slips_for := gOf (fun a : List Int × List Int => [tI a.1, tI a.2]) (fun a => Belt a.1 ∧ Marks a.1 a.2) (fun a => tN (slipLot a.1 a.2))
theorem q_slips_for {bs ms : List Int} (h : Belt bs) (h2 : Marks bs ms) : c_slips_for [tI bs, tI ms] = some (tN (slipLot bs ms)) := gOf_eq (f := fun a : List Int × List Int => [tI a.1, tI a.2]) (fun a b h => by rw [(injTT h).1, (injTT h).2]) (a := (bs, ms)) ⟨h, h2⟩
theorem l_slips_for : ∀ ds d, ds.length = 2 → c_slips_for ds = some d → m_slips_for c_all_agree c_check_marks (seP d) (envP ds 4) := by
  intro ds d _ h
  obtain ⟨⟨bs, ms⟩, ⟨hb, hm⟩, rfl, rfl⟩ := gOf_inv h
  simp only at hb hm
  have hl6 := hb.len
  obtain ⟨lot, el⟩ := slip_find (ms := ms) hb
  have sp := sorted_pairs bs.length hl6
  have cl : (lotsN bs.length).length ≤ cap := by
    rw [lots_len]
    have : bs.length = 0 ∨ bs.length = 1 ∨ bs.length = 2 ∨ bs.length = 3 ∨ bs.length = 4 ∨ bs.length = 5 ∨ bs.length = 6 := by omega
    rcases this with e | e | e | e | e | e | e <;> (rw [e]; decide)
  simp [m_slips_for, q_check_marks hb hm, rg1_nat (show bs.length ≤ 1000000 by omega)]
  rw [List.range_eq_range']
  refine fm_lots _ bs.length 0 .no (by omega) rfl fun s3 h3 => ?_
  rw [Nat.zero_add]
  simp [cl]
  rw [lcMap (h := pairD)]
  · simp only [Option.map_some, Option.bind_some, Function.comp_apply, sp, it_l, ev_os]
    refine fm_pick hb hm _ (srtN bs.length) s3 .no .no rfl rfl ?_
    rw [el]
    intro ε
    show tN lot = tN (slipLot bs ms)
    unfold slipLot
    rw [el]
    rfl
  · intro ws _
    simp
end K97

set_option Elab.async false
set_option linter.all false
set_option maxRecDepth 100000
set_option maxHeartbeats 4000000
/-! K97f: services: checks, due days, plain days. -/
namespace K97
open PySem PySem.Spec PyProof.Rows L2 Pd Gen
abbrev pr (b : Int) : D := .tuple [.int b, .int 0]
abbrev sv (bs : List Int) : D := .tuple (bs.map pr)
@[simp] theorem fz_sv {bs : List Int} : frozenL (bs.map pr) = true := fz_map (fun _ => rfl) bs
@[simp] theorem ts_sv {bs : List Int} : toSl (.tuple (bs.map pr)) = .ow (.tuple (bs.map pr)) := ts_frz (by simp)
theorem ts_pr {b : Int} : toSl (pr b) = .ow (pr b) := rfl
theorem sv_inj : ∀ {xs ys : List Int}, xs.map pr = ys.map pr → xs = ys
  | [], [], _ => rfl
  | [], _ :: _, h => by simp at h
  | _ :: _, [], h => by simp at h
  | x :: xs, y :: ys, h => by
    simp only [List.map_cons, List.cons.injEq, PyData.tuple.injEq, PyData.int.injEq, and_true] at h
    rw [h.1, sv_inj h.2]
theorem injS {xs ys : List Int} {a b : Int} (h : [sv xs, PyData.int a] = [sv ys, .int b]) : xs = ys ∧ a = b := by
  simp only [List.cons.injEq, PyData.int.injEq, PyData.tuple.injEq, and_true] at h
  exact ⟨sv_inj h.1, h.2⟩
theorem injS1 {xs ys : List Int} (h : [sv xs] = [sv ys]) : xs = ys := by
  simp only [List.cons.injEq, PyData.tuple.injEq, and_true] at h
  exact sv_inj h
noncomputable def c_is_service := gOf (fun bs : List Int => [sv bs]) Belt (fun _ => .bool true)
theorem q_is_service {bs : List Int} (h : Belt bs) : c_is_service [sv bs] = some (.bool true) := gOf_eq (fun _ _ _ => rfl) (a := bs) h
theorem fm_serv (S : SE) {A0 : Slot} (hS : ∀ s1, S.nx [A0, s1]) : ∀ (bs : List Int) (s1 : Slot), notIo (some s1) = true → (∀ b ∈ bs, 2 ≤ b ∧ b ≤ 400) →
    forM (bbName 1) (sSeq (sIf (mT (bOr (bNot (tst (e1 (gIsa "tuple") (eVar 1)))) (bOr (tst (e2 cmpNe (eCall gLen (aCons (eVar 1) aNil)) (eC (.int 2)))) (bNot (tst (eFn 3 c_is_within (aCons (e2 gIx (eVar 1) (eC (.int 0))) (aCons (eC (.int 1)) (aCons (eC (.int 400)) aNil))))))))) (sRet (mP (eC (.bool false)))) sNext)
      (sIf (mT (bNot (tst (eFn 3 c_is_within (aCons (e2 gIx (eVar 1) (eC (.int 1))) (aCons (eC (.int 0)) (aCons (e2 Pd.gSub (e2 gIx (eVar 1) (eC (.int 0))) (eC (.int 1))) aNil))))))) (sRet (mP (eC (.bool false)))) sNext)) (bs.map pr) S [A0, s1] := by
  intro bs
  induction bs with
  | nil => intro s1 _ _; simpa using hS s1
  | cons b bs ih =>
    intro s1 h1 hb
    have q := hb b List.mem_cons_self
    have ih2 := ih (.ow (pr b)) rfl fun x hx => hb x (List.mem_cons_of_mem _ hx)
    rw [List.map_cons, ev_fcons]
    simp [h1, ts_pr, q_is_within (show (1 : Int) ≤ b by omega) q.2, q_is_within (show (0 : Int) ≤ 0 by omega) (show (0 : Int) ≤ b - 1 by omega)]
    exact ih2
theorem l_is_service : ∀ ds d, ds.length = 1 → c_is_service ds = some d → m_is_service c_is_within (seP d) (envP ds 1) := by
  intro ds d _ h
  obtain ⟨bs, hb, rfl, rfl⟩ := gOf_inv h
  have h1 := hb.ne
  have h2 := hb.len
  simp [m_is_service, show (1 : Int) ≤ (bs.length : Int) by omega, show (bs.length : Int) ≤ 6 by omega]
  exact fm_serv _ (fun s1 => by simp) bs .no rfl hb.lim
noncomputable def c_check_service := gOf (fun a : List Int × Int => [sv a.1, .int a.2]) (fun a => Belt a.1 ∧ 0 ≤ a.2 ∧ a.2 ≤ 1000) (fun _ => .none)
theorem q_check_service {bs : List Int} {n : Int} (h : Belt bs) (h0 : 0 ≤ n) (h1 : n ≤ 1000) : c_check_service [sv bs, .int n] = some .none := gOf_eq (fun _ _ _ => rfl) (a := (bs, n)) ⟨h, h0, h1⟩
theorem l_check_service : ∀ ds d, ds.length = 2 → c_check_service ds = some d → m_check_service c_is_within c_is_service (seP d) (envP ds 0) := by
  intro ds d _ h
  obtain ⟨⟨bs, n⟩, ⟨hb, h0, h1⟩, rfl, rfl⟩ := gOf_inv h
  simp only at hb h0 h1
  simp [m_check_service, q_is_service hb, q_is_within h0 h1]
/-! all_due -/
theorem fm_due (S : SE) (A : Slot) (fin : Int → Prop) (hS : ∀ f s2, fin f → S.nx [A, .ow (.int f), s2]) : ∀ (bs : List Int) (f : Int) (s2 : Slot) (k : Nat), notIo (some s2) = true → 0 < f → f ≤ 400 ^ k → bs.length + k ≤ 6 → (∀ b ∈ bs, 0 < b ∧ b ≤ 400) → fin (lcmF f bs) →
    forM (bbName 2) (sSet 1 (mP (e2 gFdiv (e2 gMul (eVar 1) (e2 gIx (eVar 2) (eC (.int 0)))) (eFn 2 c_shared (aCons (eVar 1) (aCons (e2 gIx (eVar 2) (eC (.int 0))) aNil)))))) (bs.map pr) S [A, .ow (.int f), s2] := by
  intro bs
  induction bs with
  | nil => intro f s2 k _ _ _ _ _ h; simpa using hS f s2 h
  | cons b bs ih =>
    intro f s2 k h2 h0 h1 hl hb h
    have q := hb b List.mem_cons_self
    have hk : f * b ≤ 400 ^ (k + 1) := by
      rw [Int.pow_succ]
      exact Int.mul_le_mul h1 q.2 (by omega) (Int.le_of_lt (Int.pow_pos (by decide)))
    have big := p400 (show k ≤ 6 by omega)
    have hg := gcd_pos' (b := b) h0
    have hgl : (Int.gcd f b : Int) ≤ f := Int.le_of_dvd h0 (Int.gcd_dvd_left f b)
    have s1 : sm f = true := sm_small (by omega) (by omega)
    have s3 : sm b = true := sm_small (by omega) (by omega)
    have s4 : sm (Int.gcd f b : Int) = true := sm_small (by omega) (by omega)
    have ih2 := ih (Int.lcm f b : Int) (.ow (pr b)) (k + 1) rfl (lcm_pos h0 q.1) (Int.le_trans (lcm_le h0 q.1) hk) (by simp at hl; omega) (fun x hx => hb x (List.mem_cons_of_mem _ hx)) h
    rw [List.map_cons, ev_fcons]
    simp [h2, ts_pr, op_ii_mul s1 s3, op_ii_div hg s4, lcm_two h0 q.1]
    exact ih2
noncomputable def c_all_due := gOf (fun bs : List Int => [sv bs]) Belt (fun bs => .int (lcmL bs))
theorem q_all_due {bs : List Int} (h : Belt bs) : c_all_due [sv bs] = some (.int (lcmL bs)) := gOf_eq (f := fun bs : List Int => [sv bs]) (fun a b h => by rw [injS1 h]) (a := bs) h
theorem l_all_due : ∀ ds d, ds.length = 1 → c_all_due ds = some d → m_all_due c_shared c_check_service (seP d) (envP ds 2) := by
  intro ds d _ h
  obtain ⟨bs, hb, rfl, rfl⟩ := gOf_inv h
  simp [m_all_due, q_check_service hb (show (0 : Int) ≤ 0 by omega) (by omega)]
  refine fm_due _ _ (fun f => f = lcmL bs) (fun f s2 e => by simp [e]) bs 1 .no 0 rfl (by decide) (by decide) (by have := hb.len; omega) (fun b h => ⟨hb.pos b h, (hb.lim b h).2⟩) rfl
/-! due_on, next_due -/
def dueL (bs : List Int) (day : Int) : List Nat := (bs.zipIdx.filter fun p => decide (day % p.1 = 0)).map (·.2)
theorem zipIdx_mem1 {bs : List Int} {p : Int × Nat} {k : Nat} (h : p ∈ bs.zipIdx k) : p.1 ∈ bs := by
  obtain ⟨x, i⟩ := p
  exact List.fst_mem_of_mem_zipIdx h
theorem lc_due {bs : List Int} {day : Int} (hb : Belt bs) {A0 : Slot} : compL (bTup (bCons (bName 2) (bCons (bName 3) bNil))) (tst (e2 cmpEq (e2 gMod (eVar 1) (e2 gIx (eVar 3) (eC (.int 0)))) (eC (.int 0)))) (eFrz (eVar 2)) [A0, .ow (.int day), .no, .no] (bs.zipIdx.map fun p => .tuple [.int (p.2 : Int), pr p.1]) = some (nI (dueL bs day)) := by
  rw [lcFilter (p := fun p : Int × Nat => decide (day % p.1 = 0)) (h := fun p => .int (p.2 : Int))]
  · simp [dueL, nI]
  · intro p hp
    have := hb.pos p.1 (zipIdx_mem1 hp)
    simp [op_ii_mod this]
    by_cases h : day % p.1 = 0 <;> simp [h]
theorem lc_due2 {bs : List Int} {day : Int} (hb : Belt bs) {A0 A1 : Slot} : compL (bTup (bCons (bName 4) (bCons (bName 3) bNil))) (tst (e2 cmpEq (e2 gMod (eVar 2) (e2 gIx (eVar 3) (eC (.int 0)))) (eC (.int 0)))) (eFrz (eVar 4)) [A0, A1, .ow (.int day), .no, .no] (bs.zipIdx.map fun p => .tuple [.int (p.2 : Int), pr p.1]) = some (nI (dueL bs day)) := by
  rw [lcFilter (p := fun p : Int × Nat => decide (day % p.1 = 0)) (h := fun p => .int (p.2 : Int))]
  · simp [dueL, nI]
  · intro p hp
    have := hb.pos p.1 (zipIdx_mem1 hp)
    simp [op_ii_mod this]
    by_cases h : day % p.1 = 0 <;> simp [h]
noncomputable def c_due_on := gOf (fun a : List Int × Int => [sv a.1, .int a.2]) (fun a => Belt a.1 ∧ 1 ≤ a.2 ∧ a.2 ≤ 1000) (fun a => tN (dueL a.1 a.2))
theorem q_due_on {bs : List Int} {n : Int} (h : Belt bs) (h0 : 1 ≤ n) (h1 : n ≤ 1000) : c_due_on [sv bs, .int n] = some (tN (dueL bs n)) := gOf_eq (f := fun a : List Int × Int => [sv a.1, .int a.2]) (fun a b h => by
  obtain ⟨e1, e2⟩ := injS h
  rw [e1, e2]) (a := (bs, n)) ⟨h, h0, h1⟩
theorem l_due_on : ∀ ds d, ds.length = 2 → c_due_on ds = some d → m_due_on c_check_service (seP d) (envP ds 2) := by
  intro ds d _ h
  obtain ⟨⟨bs, n⟩, ⟨hb, h0, h1⟩, rfl, rfl⟩ := gOf_inv h
  simp only at hb h0 h1
  have hl6 := hb.len
  simp [m_due_on, q_check_service hb (show (0 : Int) ≤ n by omega) h1, show ¬ n = 0 by omega, gi_enum, capL (show bs.length ≤ 1000 by omega)]
  rw [lc_due hb]
  simp [gl_tupL]
def minL : List Int → Int
  | [] => 0
  | x :: xs => xs.foldl min x
def laterV (bs : List Int) (day : Int) : Int := minL (bs.map fun b => (day / b + 1) * b)
noncomputable def c_next_due := gOf (fun a : List Int × Int => [sv a.1, .int a.2]) (fun a => Belt a.1 ∧ 0 ≤ a.2 ∧ a.2 ≤ 1000) (fun a => .tuple [.int (laterV a.1 a.2), tN (dueL a.1 (laterV a.1 a.2))])
theorem q_next_due {bs : List Int} {n : Int} (h : Belt bs) (h0 : 0 ≤ n) (h1 : n ≤ 1000) : c_next_due [sv bs, .int n] = some (.tuple [.int (laterV bs n), tN (dueL bs (laterV bs n))]) := gOf_eq (f := fun a : List Int × Int => [sv a.1, .int a.2]) (fun a b h => by
  obtain ⟨e1, e2⟩ := injS h
  rw [e1, e2]) (a := (bs, n)) ⟨h, h0, h1⟩
theorem min_of {xs : List Int} (h : xs ≠ []) : gMin [.list (xs.map .int)] = some (.int (minL xs)) := by
  cases xs with
  | nil => exact absurd rfl h
  | cons x xs => exact gl_min
theorem l_next_due : ∀ ds d, ds.length = 2 → c_next_due ds = some d → m_next_due c_check_service (seP d) (envP ds 3) := by
  intro ds d _ h
  obtain ⟨⟨bs, n⟩, ⟨hb, h0, h1⟩, rfl, rfl⟩ := gOf_inv h
  simp only at hb h0 h1
  have hl6 := hb.len
  have hne : (bs.map fun b => (n / b + 1) * b) ≠ [] := by
    have := hb.ne
    intro z
    simp at z
    rw [z] at this
    simp at this
  have mn := min_of hne
  rw [List.map_map] at mn
  simp [m_next_due, q_check_service hb h0 h1, capL (show bs.length ≤ 1000 by omega)]
  rw [lcMap (h := PyData.int ∘ fun b => (n / b + 1) * b)]
  · have mn : gMin [.list (bs.map (PyData.int ∘ fun b => (n / b + 1) * b))] = some (.int (laterV bs n)) := mn
    simp [mn, gi_enum, capL (show bs.length ≤ 1000 by omega)]
    rw [lc_due2 hb]
    simp [gl_tupL]
  · intro b hb'
    have hp := hb.lim b hb'
    have d1 : n / b ≤ 1000 := Int.le_trans (Int.ediv_le_self b h0) h1
    have d0 : 0 ≤ n / b := Int.ediv_nonneg h0 (by omega)
    simp [op_ii_div (show 0 < b by omega) (sm_small (show -(10 ^ 100) ≤ b by omega) (by omega)), op_ii_mul (sm_small (show -(10 ^ 100) ≤ n / b + 1 by omega) (by omega)) (sm_small (show -(10 ^ 100) ≤ b by omega) (by omega))]
end K97

set_option Elab.async false
set_option linter.all false
set_option maxRecDepth 100000
set_option maxHeartbeats 4000000
/-! K97g: plain days and visits. -/
namespace K97
open PySem PySem.Spec PyProof.Rows L2 Pd Gen
def mults (b n : Int) : List Int := (List.range (n / b).toNat).map fun k : Nat => b + (k : Int) * b
theorem size_mults {b n : Int} (hb : 0 < b) (hn : 0 ≤ n) : Builtin.Range.rangeSize b (n + 1) b = n / b := by
  unfold Builtin.Range.rangeSize
  rw [if_pos hb]
  split
  · have e : n = (n + 1 - b - 1) + 1 * b := by omega
    have := Int.add_mul_ediv_right (n + 1 - b - 1) 1 (show b ≠ 0 by omega)
    rw [← e] at this
    exact this.symm
  · exact (Int.ediv_eq_zero_of_lt hn (by omega)).symm
theorem trg_mults {b n : Int} (h : 2 ≤ b ∧ b ≤ 400) (h0 : 0 ≤ n) (h1 : n ≤ 1000) : gTrg3 [.int b, .int (n + 1), .int b] = some (tI (mults b n)) := by
  have hs := size_mults (show 0 < b by omega) h0
  have d0 : 0 ≤ n / b := Int.ediv_nonneg h0 (by omega)
  have d1 : n / b ≤ 1000 := Int.le_trans (Int.ediv_le_self b h0) h1
  have fit : ∀ i : Int, -5000 ≤ i → i ≤ 5000 → Builtin.Range.rangeFitsLong i = true := fun i a c => by
    unfold Builtin.Range.rangeFitsLong
    simp only [Bool.and_eq_true, decide_eq_true_eq]
    omega
  have sm : Builtin.Range.small b (n + 1) b = true := by
    unfold Builtin.Range.small
    rw [hs, if_pos (show b > 0 by omega), fit b (by omega) (by omega), fit (n + 1) (by omega) (by omega), fit (n / b) (by omega) (by omega), fit (n + 1 + (b - 1)) (by omega) (by omega)]
    simp
  have ok : rg3Ok b (n + 1) b = true := by
    unfold rg3Ok
    simp only [Bool.and_eq_true, decide_eq_true_eq, rgOk_iff, hs]
    refine ⟨⟨⟨⟨⟨⟨by omega, by omega, by omega, by omega⟩, by omega⟩, by omega⟩, by omega⟩, sm⟩, ?_⟩
    omega
  show (if (rg3Ok b (n + 1) b && decide ((Builtin.Range.rangeSize b (n + 1) b).toNat ≤ 1000000)) = true then some (PyData.tuple (rgC b b (Builtin.Range.rangeSize b (n + 1) b).toNat)) else none) = _
  rw [hs, ok, if_pos (by simp; omega)]
  unfold rgC mults tI
  rw [List.map_map]
  rfl
noncomputable def c_plain_days := gOf (fun a : List Int × Int => [sv a.1, .int a.2]) (fun a => Belt a.1 ∧ 0 ≤ a.2 ∧ a.2 ≤ 1000) (fun a => .tuple (a.1.map fun b => tI (mults b a.2)))
theorem q_plain_days {bs : List Int} {n : Int} (h : Belt bs) (h0 : 0 ≤ n) (h1 : n ≤ 1000) : c_plain_days [sv bs, .int n] = some (.tuple (bs.map fun b => tI (mults b n))) := gOf_eq (f := fun a : List Int × Int => [sv a.1, .int a.2]) (fun a b h => by
  obtain ⟨e1, e2⟩ := injS h
  rw [e1, e2]) (a := (bs, n)) ⟨h, h0, h1⟩
theorem l_plain_days : ∀ ds d, ds.length = 2 → c_plain_days ds = some d → m_plain_days c_check_service (seP d) (envP ds 1) := by
  intro ds d _ h
  obtain ⟨⟨bs, n⟩, ⟨hb, h0, h1⟩, rfl, rfl⟩ := gOf_inv h
  simp only at hb h0 h1
  have hl6 := hb.len
  simp [m_plain_days, q_check_service hb h0 h1, capL (show bs.length ≤ 1000 by omega)]
  rw [lcMap (h := fun b => tI (mults b n))]
  · have f : frozenL (bs.map fun b => tI (mults b n)) = true := fz_map (fun b => (by simp : frozen (tI (mults b n)) = true)) bs
    have e := gl_tupL f
    simp [e]
  · intro b hb'
    have t := trg_mults (hb.lim b hb') h0 h1
    simp [t]
/-! plain_visits -/
def esOf (ks : List Int) : List (D × D) := ks.map fun k => (.int k, .bool true)
def insK (ks : List Int) (k : Int) : List Int := if k ∈ ks then ks else ks ++ [k]
theorem put_es {ks : List Int} {k : Int} : putD (esOf ks) (.int k) (.bool true) = esOf (insK ks k) := by
  have any : ∀ ks : List Int, ((esOf ks).any fun p => keq p.1 (.int k)) = decide (k ∈ ks) := by
    intro ks
    induction ks with
    | nil => rfl
    | cons a ks ih =>
      show (decide (a = k) || (esOf ks).any fun p => keq p.1 (.int k)) = _
      rw [ih]
      by_cases h : a = k
      · subst h; simp
      · have h' : ¬ k = a := fun z => h z.symm
        simp [h, h']
  have map : ∀ ks : List Int, (esOf ks).map (fun p => if keq p.1 (.int k) = true then (p.1, PyData.bool true) else p) = esOf ks := by
    intro ks
    induction ks with
    | nil => rfl
    | cons a ks ih =>
      have e : esOf (a :: ks) = (.int a, .bool true) :: esOf ks := rfl
      rw [e, List.map_cons, ih]
      split <;> rfl
  unfold putD insK
  rw [any]
  by_cases h : k ∈ ks
  · rw [if_pos (by simpa using h), if_pos h, map]
  · rw [if_neg (by simpa using h), if_neg h]
    simp [esOf]
theorem frz_es {ks : List Int} : frozenL ((esOf ks).map fun p => p.2) = true := by
  unfold esOf
  rw [List.map_map]
  exact fz_map (fun _ => rfl) ks
theorem plain_es {ks : List Int} : plainD (esOf ks) = true := by
  unfold plainD esOf
  rw [List.all_map, List.all_eq_true]
  intro x _
  rfl
theorem gput_es {ks : List Int} {k : Int} (h : ks.length ≤ 1000000) : gPut (.dict (esOf ks)) (.int k) (.bool true) = some (.dict (esOf (insK ks k))) := by
  have hc : (esOf ks).length ≤ cap := by simp [esOf]; exact h
  show (if (plainD (esOf ks) && isKey (.int k) && frozen (.bool true) && frozenL ((esOf ks).map fun p => p.2) && decide ((esOf ks).length ≤ cap)) = true then some (PyData.dict (putD (esOf ks) (.int k) (.bool true))) else none) = _
  rw [if_pos (by rw [plain_es, frz_es]; simp [isKey, hc]), put_es]
theorem insK_len {ks : List Int} {k : Int} : (insK ks k).length ≤ ks.length + 1 := by
  unfold insK
  split <;> simp
theorem ins_len : ∀ (days ks : List Int), (days.foldl insK ks).length ≤ ks.length + days.length := by
  intro days
  induction days with
  | nil => intro ks; simp
  | cons k days ih =>
    intro ks
    have a := ih (insK ks k)
    have b := insK_len (ks := ks) (k := k)
    simp at a ⊢
    omega
section
variable {A0 A1 : Slot}
theorem fm_put (S : SE) {s3 : Slot} : ∀ (days ks : List Int) (s4 : Slot), notIo (some s4) = true → ks.length + days.length ≤ 1000000 → (∀ s4, notIo (some s4) = true → S.nx [A0, A1, .ow (.dict (esOf (days.foldl insK ks))), s3, s4]) →
    forM (bbName 4) (sDput 2 (eVar 4) (mP (eC (.bool true)))) (days.map PyData.int) S [A0, A1, .ow (.dict (esOf ks)), s3, s4] := by
  intro days
  induction days with
  | nil => intro ks s4 h4 _ h; simpa using h s4 h4
  | cons k days ih =>
    intro ks s4 h4 hl h
    have hl2 : (insK ks k).length + days.length ≤ 1000000 := by
      have := insK_len (ks := ks) (k := k)
      simp at hl
      omega
    have ih2 := ih (insK ks k) (.ow (.int k)) rfl hl2 h
    rw [List.map_cons, ev_fcons]
    simp [h4, gput_es (show ks.length ≤ 1000000 by omega)]
    exact ih2
theorem fm_rows (S : SE) : ∀ (rows : List (List Int)) (ks : List Int) (s3 s4 : Slot), notIo (some s3) = true → notIo (some s4) = true → ks.length + rows.flatten.length ≤ 1000000 → (∀ s3 s4, S.nx [A0, A1, .ow (.dict (esOf (rows.flatten.foldl insK ks))), s3, s4]) →
    forM (bbName 3) (sFor (miSelf (mLend 3)) (bbName 4) (sDput 2 (eVar 4) (mP (eC (.bool true))))) (rows.map tI) S [A0, A1, .ow (.dict (esOf ks)), s3, s4] := by
  intro rows
  induction rows with
  | nil => intro ks s3 s4 h3 h4 _ h; simpa using h s3 s4
  | cons row rows ih =>
    intro ks s3 s4 h3 h4 hl h
    rw [List.map_cons, ev_fcons]
    have t : toSl (tI row) = .ow (tI row) := ts_tints
    simp only [ev_bbname, List.getElem?_cons_succ, List.getElem?_cons_zero, h3, if_true, ev_os, List.set_cons_succ, List.set_cons_zero, t, ev_for, ev_miself, ev_lendS, ev_lend0, fz_tup, fz_ints, Option.map_some, Option.bind_some, it_t]
    rw [List.flatten_cons, List.length_append] at hl
    refine fm_put _ row ks s4 h4 (by omega) fun s4 h4 => ?_
    have l := ins_len row ks
    exact ih _ _ s4 rfl h4 (by omega) (by
      rw [List.flatten_cons, List.foldl_append] at h
      exact h)
end
theorem ins_nodup : ∀ (days ks : List Int), ks.Nodup → (days.foldl insK ks).Nodup
  | [], ks, h => h
  | k :: days, ks, h => ins_nodup days (insK ks k) (by
    unfold insK
    split
    · exact h
    · rename_i hk
      rw [List.nodup_append]
      exact ⟨h, by simp, fun a ha b hb => by
        obtain rfl := List.mem_singleton.mp hb
        exact fun e => hk (e ▸ ha)⟩)
theorem ins_mem {x : Int} : ∀ (days ks : List Int), x ∈ days.foldl insK ks ↔ x ∈ ks ∨ x ∈ days
  | [], ks => by simp
  | k :: days, ks => by
    rw [List.foldl_cons, ins_mem days (insK ks k)]
    unfold insK
    split
    · rename_i hk
      rw [List.mem_cons]
      constructor
      · rintro (h | h)
        · exact .inl h
        · exact .inr (.inr h)
      · rintro (h | h | h)
        · exact .inl h
        · subst h; exact .inl hk
        · exact .inr h
    · simp only [List.mem_append, List.mem_cons, List.not_mem_nil, or_false]
      constructor
      · rintro ((h | h) | h)
        · exact .inl h
        · exact .inr (.inl h)
        · exact .inr (.inr h)
      · rintro (h | h | h)
        · exact .inl (.inl h)
        · exact .inl (.inr h)
        · exact .inr h
/-- the sorted list of distinct numbers -/
theorem sort_ints {ks vs : List Int} (h1 : ks.Nodup) (h2 : vs.Pairwise (· < ·)) (h3 : ∀ x, x ∈ ks ↔ x ∈ vs) (hl : ks.length ≤ 1000000) : gSorted [.list (ks.map .int)] = some (.list (vs.map .int)) := by
  have al : alikeB (ks.map PyData.int) = true := by
    unfold alikeB
    simp only [List.all_eq_true]
    intro x hx y hy
    obtain ⟨a, _, rfl⟩ := List.mem_map.mp hx
    obtain ⟨b, _, rfl⟩ := List.mem_map.mp hy
    rfl
  have ot : allOther (ks.map PyData.int) = true := by
    unfold allOther
    simp only [List.all_eq_true]
    intro x hx
    obtain ⟨a, _, rfl⟩ := List.mem_map.mp hx
    rfl
  have sh : shalL (ks.map PyData.int) = true := by
    unfold shalL
    simp only [List.all_eq_true]
    intro x hx
    obtain ⟨a, _, rfl⟩ := List.mem_map.mp hx
    rw [decide_eq_true_eq]
    exact Nat.zero_le _
  have e1 : (ks.map PyData.int).mergeSort (W.dataLe false id) = (ks.mergeSort fun a b => decide (a ≤ b)).map .int := by
    refine (List.map_mergeSort fun a _ b _ => ?_).symm
    have := congrFun (congrFun (W.dataLe_int (fun x : Int => x)) a) b
    exact this.symm
  have nv : vs.Nodup := h2.imp fun h e => by omega
  have pm : ks.Perm vs := by
    rw [List.perm_iff_count]
    intro a
    rw [h1.count, nv.count]
    by_cases h : a ∈ ks
    · rw [if_pos h, if_pos ((h3 a).mp h)]
    · rw [if_neg h, if_neg fun z => h ((h3 a).mpr z)]
  have e2 : (ks.mergeSort fun a b => decide (a ≤ b)) = vs := by
    refine List.Perm.eq_of_pairwise (le := fun a b => (decide (a ≤ b)) = true) (fun a b _ _ l1 l2 => ?_) (List.pairwise_mergeSort (fun a b c l1 l2 => ?_) (fun a b => ?_) ks) ?_ ((List.mergeSort_perm _ _).trans pm)
    · rw [decide_eq_true_eq] at l1 l2
      omega
    · rw [decide_eq_true_eq] at l1 l2 ⊢
      omega
    · by_cases h : a ≤ b <;> simp [h] <;> omega
    · exact h2.imp fun h => by rw [decide_eq_true_eq]; omega
  have hc : (ks.map PyData.int).length ≤ cap := by simp; exact hl
  show (if (alikeB (ks.map PyData.int) && (allTup1 (ks.map PyData.int) || allOther (ks.map PyData.int)) && frozenL (ks.map PyData.int) && shalL (ks.map PyData.int) && decide ((ks.map PyData.int).length ≤ cap)) = true then some (PyData.list ((ks.map PyData.int).mergeSort (W.dataLe false id))) else none) = _
  rw [if_pos (by rw [al, ot, sh, fz_ints]; simp; exact hl), e1, e2]
def visits (bs : List Int) (n : Nat) : List Int := ((List.range n).map fun i : Nat => (i : Int) + 1).filter fun d => bs.any fun b => decide (d % b = 0)
theorem visits_sorted {bs : List Int} {n : Nat} : (visits bs n).Pairwise (· < ·) := by
  unfold visits
  refine List.Pairwise.filter _ ?_
  rw [List.pairwise_map]
  exact List.pairwise_lt_range.imp fun h => by omega
theorem mem_visits {bs : List Int} {n : Nat} {d : Int} : d ∈ visits bs n ↔ (1 ≤ d ∧ d ≤ (n : Int)) ∧ ∃ b ∈ bs, d % b = 0 := by
  unfold visits
  rw [List.mem_filter, List.mem_map]
  simp only [List.mem_range, List.any_eq_true, decide_eq_true_eq]
  constructor
  · rintro ⟨⟨i, hi, rfl⟩, h⟩
    exact ⟨by omega, h⟩
  · rintro ⟨⟨h1, h2⟩, h⟩
    exact ⟨⟨(d - 1).toNat, by omega, by omega⟩, h⟩
theorem mem_mults {b n d : Int} (hb : 0 < b) (hn : 0 ≤ n) : d ∈ mults b n ↔ (1 ≤ d ∧ d ≤ n) ∧ d % b = 0 := by
  unfold mults
  rw [List.mem_map]
  constructor
  · rintro ⟨k, hk, rfl⟩
    have hk := List.mem_range.mp hk
    have hk2 : (k : Int) + 1 ≤ n / b := by omega
    have := Int.mul_le_of_le_ediv hb hk2
    have e : ((k : Int) + 1) * b = b + (k : Int) * b := by rw [Int.add_mul]; omega
    have p : 0 ≤ (k : Int) * b := Int.mul_nonneg (by omega) (by omega)
    refine ⟨⟨by omega, by omega⟩, ?_⟩
    rw [← e]
    exact Int.mul_emod_left _ _
  · rintro ⟨⟨h1, h2⟩, h3⟩
    obtain ⟨q, hq⟩ := Int.dvd_of_emod_eq_zero h3
    have q1 : 0 < q := by
      rcases Int.lt_trichotomy q 0 with h | h | h
      · have := Int.mul_neg_of_pos_of_neg hb h
        omega
      · subst h
        omega
      · exact h
    refine ⟨(q - 1).toNat, List.mem_range.mpr ?_, ?_⟩
    · have : q ≤ n / b := Int.le_ediv_of_mul_le hb (by rw [Int.mul_comm]; omega)
      omega
    · rw [Int.toNat_of_nonneg (by omega), Int.sub_mul]
      have := Int.mul_comm b q
      omega
noncomputable def c_plain_visits := gOf (fun a : List Int × Nat => [sv a.1, .int (a.2 : Int)]) (fun a => Belt a.1 ∧ a.2 ≤ 1000) (fun a => tI (visits a.1 a.2))
theorem q_plain_visits {bs : List Int} {n : Nat} (h : Belt bs) (h1 : n ≤ 1000) : c_plain_visits [sv bs, .int (n : Int)] = some (tI (visits bs n)) := gOf_eq (f := fun a : List Int × Nat => [sv a.1, .int (a.2 : Int)]) (fun a b h => by
  obtain ⟨e1, e2⟩ := injS h
  rw [e1, show a.2 = b.2 by omega]) (a := (bs, n)) ⟨h, h1⟩
theorem l_plain_visits : ∀ ds d, ds.length = 2 → c_plain_visits ds = some d → m_plain_visits c_plain_days (seP d) (envP ds 3) := by
  intro ds d _ h
  obtain ⟨⟨bs, n⟩, ⟨hb, h1⟩, rfl, rfl⟩ := gOf_inv h
  simp only at hb h1
  have hl6 := hb.len
  simp [m_plain_visits, q_plain_days hb (show (0 : Int) ≤ (n : Int) by omega) (show (n : Int) ≤ 1000 by omega)]
  have e : (bs.map fun b => PyData.tuple ((mults b (n : Int)).map .int)) = (bs.map fun b => mults b (n : Int)).map tI := by simp
  rw [e]
  have ml : ∀ b ∈ bs, (mults b (n : Int)).length ≤ 1000 := fun b hb' => by
    unfold mults
    have := hb.pos b hb'
    have d1 : (n : Int) / b ≤ n := Int.ediv_le_self b (by omega)
    simp
    omega
  have fl : ∀ bs : List Int, (∀ b ∈ bs, (mults b (n : Int)).length ≤ 1000) → ((bs.map fun b => mults b (n : Int)).flatten).length ≤ 1000 * bs.length := by
    intro bs
    induction bs with
    | nil => intro _; simp
    | cons b bs ih =>
      intro hx
      have a := ih fun x hx' => hx x (List.mem_cons_of_mem _ hx')
      have b1 := hx b List.mem_cons_self
      rw [List.map_cons, List.flatten_cons, List.length_append, List.length_cons]
      omega
  have f1 := fl bs ml
  refine fm_rows _ (bs.map fun b => mults b (n : Int)) [] .no .no rfl rfl (by simp only [List.length_nil]; omega) fun s3 s4 => ?_
  have nd := ins_nodup ((bs.map fun b => mults b (n : Int)).flatten) [] (by simp)
  have mem : ∀ x, x ∈ ((bs.map fun b => mults b (n : Int)).flatten).foldl insK [] ↔ x ∈ visits bs n := by
    intro x
    rw [ins_mem, mem_visits]
    simp only [List.not_mem_nil, false_or, List.mem_flatten, List.mem_map]
    constructor
    · rintro ⟨l, ⟨b, hb', rfl⟩, hx⟩
      have := (mem_mults (hb.pos b hb') (by omega)).mp hx
      exact ⟨this.1, b, hb', this.2⟩
    · rintro ⟨h, b, hb', h2⟩
      exact ⟨_, ⟨b, hb', rfl⟩, (mem_mults (hb.pos b hb') (by omega)).mpr ⟨h, h2⟩⟩
  have kl : (((bs.map fun b => mults b (n : Int)).flatten).foldl insK []).length ≤ 1000000 := by
    have := ins_len ((bs.map fun b => mults b (n : Int)).flatten) []
    simp only [List.length_nil] at this
    omega
  generalize ((bs.map fun b => mults b (n : Int)).flatten).foldl insK [] = ks at nd mem kl
  have st := sort_ints nd visits_sorted mem kl
  have gl : gListD [.dict (esOf ks)] = some (.list (ks.map .int)) := by
    show (if plainD (esOf ks) = true then some (PyData.list ((esOf ks).map fun p => p.1)) else none) = _
    rw [if_pos plain_es]
    simp [esOf]
  simp [gl, st, gl_tupL]
end K97

set_option Elab.async false
set_option linter.all false
set_option maxRecDepth 100000
set_option maxHeartbeats 4000000
/-! K97h: plain_many (inclusion and exclusion). -/
namespace K97
open PySem PySem.Spec PyProof.Rows L2 Pd Gen
abbrev pD (p : Int × Int) : D := .tuple [.int p.1, .int p.2]
def stepP (P : List (Int × Int)) (b : Int) : List (Int × Int) := P ++ P.map fun p => ((Int.lcm p.1 b : Int), p.2 + 1)
def lotsP (bs : List Int) : List (Int × Int) := bs.foldl stepP [(1, 0)]
/-- bounds of what stands in the lots -/
def PB (k : Nat) (P : List (Int × Int)) : Prop := P.length = 2 ^ k ∧ ∀ p ∈ P, (0 < p.1 ∧ p.1 ≤ 400 ^ k) ∧ 0 ≤ p.2 ∧ p.2 ≤ (k : Int)
theorem PB.step {k : Nat} {P : List (Int × Int)} (h : PB k P) {b : Int} (hb : 0 < b ∧ b ≤ 400) : PB (k + 1) (stepP P b) := by
  obtain ⟨h1, h2⟩ := h
  refine ⟨by simp [stepP, h1, Nat.pow_succ]; omega, fun p hp => ?_⟩
  have e : (400 : Int) ^ (k + 1) = 400 ^ k * 400 := Int.pow_succ ..
  have p0 : (0 : Int) < 400 ^ k := Int.pow_pos (by decide)
  rcases List.mem_append.mp hp with hp | hp
  · obtain ⟨⟨a1, a2⟩, a3, a4⟩ := h2 p hp
    refine ⟨⟨a1, ?_⟩, a3, by omega⟩
    rw [e]
    omega
  · obtain ⟨q, hq, rfl⟩ := List.mem_map.mp hp
    obtain ⟨⟨a1, a2⟩, a3, a4⟩ := h2 q hq
    refine ⟨⟨lcm_pos a1 hb.1, ?_⟩, by simp; omega, by simp; omega⟩
    rw [e]
    exact Int.le_trans (lcm_le a1 hb.1) (Int.mul_le_mul a2 hb.2 (by omega) (by omega))
theorem two_pow {k : Nat} (h : k ≤ 6) : 2 ^ k ≤ 64 := by
  have : k = 0 ∨ k = 1 ∨ k = 2 ∨ k = 3 ∨ k = 4 ∨ k = 5 ∨ k = 6 := by omega
  rcases this with rfl | rfl | rfl | rfl | rfl | rfl | rfl <;> decide
theorem frz_pD {p : Int × Int} : frozen (pD p) = true := rfl
@[simp] theorem fz_pD {P : List (Int × Int)} : frozenL (P.map pD) = true := fz_map (fun _ => rfl) P
section
variable {A0 A1 s3 : Slot}
theorem fm_incl (S : SE) : ∀ (bs : List Int) (P : List (Int × Int)) (k : Nat) (s4 : Slot), notIo (some s4) = true → PB k P → bs.length + k ≤ 6 → (∀ b ∈ bs, 0 < b ∧ b ≤ 400) → (∀ s4, S.nx [A0, A1, .ow (.list ((bs.foldl stepP P).map pD)), s3, s4, .no, .no]) →
    forM (bbName 4) (sSet 2 (mP (e2 gAdd (eVar 2) (eLc [5, 6] (iSelf (eVar 2)) (bTup (bCons (bName 5) (bCons (bName 6) bNil))) bTrue (eTup (aCons (e2 gFdiv (e2 gMul (eVar 5) (e2 gIx (eVar 4) (eC (.int 0)))) (eFn 2 c_shared (aCons (eVar 5) (aCons (e2 gIx (eVar 4) (eC (.int 0))) aNil)))) (aCons (e2 gAdd (eVar 6) (eC (.int 1))) aNil))))))) (bs.map pr) S [A0, A1, .ow (.list (P.map pD)), s3, s4, .no, .no] := by
  intro bs
  induction bs with
  | nil => intro P k s4 _ _ _ _ h; simpa using h s4
  | cons b bs ih =>
    intro P k s4 h4 hP hk hb h
    have q := hb b List.mem_cons_self
    simp only [List.length_cons] at hk
    have ih2 := ih (stepP P b) (k + 1) (.ow (pr b)) rfl (hP.step q) (by omega) (fun x hx => hb x (List.mem_cons_of_mem _ hx)) h
    have t1 := two_pow (show k ≤ 6 by omega)
    have big := p400 (show k ≤ 6 by omega)
    have c1 : P.length ≤ cap := capL (by rw [hP.1]; omega)
    have lc : compL (bTup (bCons (bName 5) (bCons (bName 6) bNil))) bTrue (eTup (aCons (e2 gFdiv (e2 gMul (eVar 5) (e2 gIx (eVar 4) (eC (.int 0)))) (eFn 2 c_shared (aCons (eVar 5) (aCons (e2 gIx (eVar 4) (eC (.int 0))) aNil)))) (aCons (e2 gAdd (eVar 6) (eC (.int 1))) aNil))) [A0, A1, .ow (.list (P.map pD)), s3, .ow (pr b), .no, .no] (P.map pD) = some (P.map fun p => pD ((Int.lcm p.1 b : Int), p.2 + 1)) := by
      refine lcMap fun p hp => ?_
      obtain ⟨⟨a1, a2⟩, a3, a4⟩ := hP.2 p hp
      have hg := gcd_pos' (b := b) a1
      have hgl : (Int.gcd p.1 b : Int) ≤ p.1 := Int.le_of_dvd a1 (Int.gcd_dvd_left _ _)
      have s1 : sm p.1 = true := sm_small (by omega) (by omega)
      have s3 : sm b = true := sm_small (by omega) (by omega)
      have s4 : sm (Int.gcd p.1 b : Int) = true := sm_small (by omega) (by omega)
      simp [op_ii_mul s1 s3, op_ii_div hg s4, lcm_two a1 q.1]
    have ad : gAdd (.list (P.map pD)) (.list (P.map fun p => pD ((Int.lcm p.1 b : Int), p.2 + 1))) = some (.list ((stepP P b).map pD)) := by
      refine (if_pos ⟨?_, by simp, fz_map (fun _ => rfl) _⟩).trans ?_
      · simp [stepP]
      · refine capL ?_
        simp [hP.1]
        omega
    rw [List.map_cons, ev_fcons]
    simp only [ev_bbname, List.getElem?_cons_succ, List.getElem?_cons_zero, h4, if_true, ev_os, List.set_cons_succ, List.set_cons_zero, ts_pr, ev_set, ev_mP, ev_e2, ev_var, ev_getS, ev_get0, ev_val1, ev_lc, ev_iself, it_l, Option.bind_some, List.length_map, c1, ev_wipeS, ev_wipe0, lc, Option.map_some, ad, ev_io1, true_and]
    exact ih2
def sgn (s : Int) : Int := if s % 2 = 1 then 1 else -1
def tot (n : Int) (t : Int) (p : Int × Int) : Int := if 0 < p.2 then t + n / p.1 * sgn p.2 else t
theorem fm_tot (S : SE) {n : Int} (h0 : 0 ≤ n) (h1 : n ≤ 1000) {A2 s4 : Slot} : ∀ (P : List (Int × Int)) (t : Int) (s5 s6 : Slot), notIo (some s5) = true → notIo (some s6) = true → (∀ p ∈ P, 0 < p.1 ∧ p.1 ≤ 4096000000000000) → (∀ s5 s6, S.nx [A0, .ow (.int n), A2, .ow (.int (P.foldl (tot n) t)), s4, s5, s6]) →
    forM (bTup (bCons (bbName 5) (bCons (bbName 6) bNil))) (sIf (mT (tst (e2 cmpGt (eVar 6) (eC (.int 0))))) (sAug 3 gAddI (mP (e2 gMul (e2 gFdiv (eVar 1) (eVar 5)) (eIf (tst (e2 cmpEq (e2 gMod (eVar 6) (eC (.int 2))) (eC (.int 1)))) (eC (.int 1)) (e1 gNeg (eC (.int 1))))))) sNext) (P.map pD) S [A0, .ow (.int n), A2, .ow (.int t), s4, s5, s6] := by
  intro P
  induction P with
  | nil => intro t s5 s6 _ _ _ h; simpa using h s5 s6
  | cons p P ih =>
    intro t s5 s6 h5 h6 hP h
    obtain ⟨a1, a2⟩ := hP p List.mem_cons_self
    have s1 : sm p.1 = true := sm_small (by omega) (by omega)
    have d0 : 0 ≤ n / p.1 := Int.ediv_nonneg h0 (by omega)
    have d1 : n / p.1 ≤ 1000 := Int.le_trans (Int.ediv_le_self p.1 h0) h1
    have s2 : sm (n / p.1) = true := sm_small (by omega) (by omega)
    have s3 : sm 1 = true := sm_small (by decide) (by decide)
    have s4' : sm (-1) = true := sm_small (by decide) (by decide)
    have ih2 := ih (tot n t p) (.ow (.int p.1)) (.ow (.int p.2)) rfl rfl (fun x hx => hP x (List.mem_cons_of_mem _ hx)) h
    rw [List.map_cons, ev_fcons]
    by_cases hp : 0 < p.2
    · by_cases hm : p.2 % 2 = 1
      · have e : tot n t p = t + n / p.1 * 1 := by simp [tot, hp, sgn, hm]
        rw [e] at ih2
        simp [h5, h6, hp, hm, op_ii_mod (show (0 : Int) < 2 by decide), op_ii_div a1 s1, op_ii_mul s2 s3]
        simpa using ih2
      · have e : tot n t p = t + n / p.1 * -1 := by simp [tot, hp, sgn, hm]
        rw [e] at ih2
        simp [h5, h6, hp, hm, op_ii_mod (show (0 : Int) < 2 by decide), op_ii_div a1 s1, op_ii_mul s2 s4']
        simpa using ih2
    · have e : tot n t p = t := by simp [tot, hp]
      rw [e] at ih2
      simp [h5, h6, hp]
      exact ih2
end
/-! the count -/
def ev1 (s : Int) : Int := if s % 2 = 1 then -1 else 1
def aD (P : List (Int × Int)) (d : Int) : Int := (P.map fun p => if d % p.1 = 0 then ev1 p.2 else 0).sum
def AD (P : List (Int × Int)) (n : Int) : Int := (P.map fun p => n / p.1 * ev1 p.2).sum
theorem ev1_succ (s : Int) : ev1 (s + 1) = - ev1 s := by
  unfold ev1
  by_cases h : s % 2 = 1
  · rw [if_pos h, if_neg (by omega)]
    rfl
  · rw [if_neg h, if_pos (by omega)]
theorem lcm_rest {a b d : Int} : d % (Int.lcm a b : Int) = 0 ↔ d % a = 0 ∧ d % b = 0 := by
  constructor
  · intro h
    have := Int.dvd_of_emod_eq_zero h
    exact ⟨Int.emod_eq_zero_of_dvd (Int.dvd_trans (Int.dvd_lcm_left a b) this), Int.emod_eq_zero_of_dvd (Int.dvd_trans (Int.dvd_lcm_right a b) this)⟩
  · rintro ⟨h1, h2⟩
    exact Int.emod_eq_zero_of_dvd (Int.coe_lcm_dvd (Int.dvd_of_emod_eq_zero h1) (Int.dvd_of_emod_eq_zero h2))
theorem aD_app (P Q : List (Int × Int)) (d : Int) : aD (P ++ Q) d = aD P d + aD Q d := by simp [aD, List.sum_append]
theorem aD_step {P : List (Int × Int)} {b d : Int} : aD (stepP P b) d = if d % b = 0 then 0 else aD P d := by
  have e : aD (P.map fun p => ((Int.lcm p.1 b : Int), p.2 + 1)) d = if d % b = 0 then - aD P d else 0 := by
    induction P with
    | nil => simp [aD]
    | cons p P ih =>
      have c1 : ∀ (Q : List (Int × Int)) (q : Int × Int), aD (q :: Q) d = (if d % q.1 = 0 then ev1 q.2 else 0) + aD Q d := fun Q q => by simp [aD]
      rw [List.map_cons, c1, ih, c1]
      simp only [lcm_rest, ev1_succ]
      by_cases h1 : d % p.1 = 0 <;> by_cases h2 : d % b = 0 <;> simp [h1, h2] <;> omega
  unfold stepP
  rw [aD_app, e]
  split <;> omega
theorem aD_lots {d : Int} : ∀ (bs : List Int) (P : List (Int × Int)), aD (bs.foldl stepP P) d = if (bs.any fun b => decide (d % b = 0)) = true then 0 else aD P d
  | [], P => by simp
  | b :: bs, P => by
    rw [List.foldl_cons, aD_lots bs, aD_step, List.any_cons]
    by_cases h : d % b = 0 <;> by_cases h2 : (bs.any fun b => decide (d % b = 0)) = true <;> simp [h, h2]
theorem succ_ediv {n : Nat} {l : Int} (h : 0 < l) : ((n : Int) + 1) / l = (n : Int) / l + if ((n : Int) + 1) % l = 0 then 1 else 0 := by
  obtain ⟨k, rfl⟩ : ∃ k : Nat, l = (k : Int) := ⟨l.toNat, by omega⟩
  have := Nat.succ_div (a := n) (b := k)
  have e1 : ((n : Int) + 1) / (k : Int) = (((n + 1) / k : Nat) : Int) := by simp
  have e2 : (n : Int) / (k : Int) = ((n / k : Nat) : Int) := by simp
  rw [e1, e2, this]
  have e3 : (((n : Int) + 1) % (k : Int) = 0) ↔ k ∣ n + 1 := by
    constructor
    · intro h
      have := Int.dvd_of_emod_eq_zero h
      exact Int.natCast_dvd_natCast.mp (by simpa using this)
    · intro h
      refine Int.emod_eq_zero_of_dvd ?_
      have := Int.natCast_dvd_natCast.mpr h
      simpa using this
  by_cases h : k ∣ n + 1
  · rw [if_pos h, if_pos (e3.mpr h)]
    simp
  · rw [if_neg h, if_neg fun z => h (e3.mp z)]
    simp
theorem AD_succ {P : List (Int × Int)} (h : ∀ p ∈ P, 0 < p.1) (n : Nat) : AD P ((n : Int) + 1) = AD P n + aD P ((n : Int) + 1) := by
  induction P with
  | nil => rfl
  | cons p P ih =>
    have i := ih fun x hx => h x (List.mem_cons_of_mem _ hx)
    have c1 : ∀ n, AD (p :: P) n = n / p.1 * ev1 p.2 + AD P n := fun n => by simp [AD]
    have c2 : ∀ n, aD (p :: P) n = (if n % p.1 = 0 then ev1 p.2 else 0) + aD P n := fun n => by simp [aD]
    rw [c1, c1, c2, i, succ_ediv (h p List.mem_cons_self), Int.add_mul]
    split <;> simp <;> omega
theorem AD_zero {P : List (Int × Int)} : AD P 0 = 0 := by
  induction P with
  | nil => rfl
  | cons p P ih =>
    have c1 : AD (p :: P) 0 = 0 / p.1 * ev1 p.2 + AD P 0 := by simp [AD]
    rw [c1, ih]
    simp
theorem visits_succ {bs : List Int} {n : Nat} : visits bs (n + 1) = visits bs n ++ if (bs.any fun b => decide (((n : Int) + 1) % b = 0)) = true then [(n : Int) + 1] else [] := by
  unfold visits
  rw [List.range_succ, List.map_append, List.filter_append]
  congr 1
  simp only [List.map_cons, List.map_nil]
  by_cases h : (bs.any fun b => decide (((n : Int) + 1) % b = 0)) = true
  · rw [if_pos h]
    simp only [List.filter_cons, h, if_true, List.filter_nil]
  · rw [if_neg h]
    have h' : (bs.any fun b => decide (((n : Int) + 1) % b = 0)) = false := by simpa using h
    simp only [List.filter_cons, h', Bool.false_eq_true, if_false, List.filter_nil]
theorem lots_one : ∀ (bs : List Int) (P : List (Int × Int)), (∀ p ∈ P, 0 < p.1) → (∀ b ∈ bs, 0 < b) → ∀ p ∈ bs.foldl stepP P, 0 < p.1
  | [], P, h, _ => h
  | b :: bs, P, h, hb => lots_one bs (stepP P b) (fun p hp => by
    rcases List.mem_append.mp hp with hp | hp
    · exact h p hp
    · obtain ⟨q, hq, rfl⟩ := List.mem_map.mp hp
      exact lcm_pos (h q hq) (hb b List.mem_cons_self)) fun x hx => hb x (List.mem_cons_of_mem _ hx)
theorem AD_count {bs : List Int} (hb : ∀ b ∈ bs, 0 < b) : ∀ n : Nat, (n : Int) - AD (lotsP bs) n = ((visits bs n).length : Int)
  | 0 => by
    rw [show ((0 : Nat) : Int) = 0 from rfl, AD_zero]
    rfl
  | n + 1 => by
    have ih := AD_count hb n
    have hp := lots_one bs [(1, 0)] (by simp) hb
    have s := AD_succ hp n
    have a := aD_lots (d := (n : Int) + 1) bs [(1, 0)]
    have a1 : aD [(1, 0)] ((n : Int) + 1) = 1 := by simp [aD, ev1]
    rw [a1] at a
    rw [show ((n + 1 : Nat) : Int) = (n : Int) + 1 by omega, visits_succ, List.length_append]
    unfold lotsP at ih ⊢
    rw [s, a]
    by_cases h : (bs.any fun b => decide (((n : Int) + 1) % b = 0)) = true
    · rw [if_pos h, if_pos h]
      simp only [List.length_cons, List.length_nil]
      omega
    · rw [if_neg h, if_neg h]
      simp only [List.length_nil]
      omega
/-- the running total -/
theorem tot_sum {n : Int} : ∀ (P : List (Int × Int)) (t : Int), (∀ p ∈ P, 0 < p.2) → P.foldl (tot n) t = t - AD P n
  | [], t, _ => by simp [AD]
  | p :: P, t, h => by
    rw [List.foldl_cons, tot_sum P _ fun x hx => h x (List.mem_cons_of_mem _ hx)]
    have hp := h p List.mem_cons_self
    have c1 : AD (p :: P) n = n / p.1 * ev1 p.2 + AD P n := by simp [AD]
    rw [c1]
    have : sgn p.2 = - ev1 p.2 := by
      unfold sgn ev1
      split <;> rfl
    simp only [tot, hp, if_true, this, Int.mul_neg]
    omega
theorem lots_head : ∀ (bs : List Int) (P : List (Int × Int)) (p : Int × Int), (∀ q ∈ P, 0 < q.2) → 0 ≤ p.2 → ∃ Q, bs.foldl stepP (p :: P) = p :: Q ∧ ∀ q ∈ Q, 0 < q.2
  | [], P, p, h, _ => ⟨P, rfl, h⟩
  | b :: bs, P, p, h, hp => by
    rw [List.foldl_cons]
    have e : stepP (p :: P) b = p :: (P ++ (p :: P).map fun p => ((Int.lcm p.1 b : Int), p.2 + 1)) := rfl
    rw [e]
    refine lots_head bs _ p (fun q hq => ?_) hp
    rcases List.mem_append.mp hq with hq | hq
    · exact h q hq
    · obtain ⟨r, hr, rfl⟩ := List.mem_map.mp hq
      rcases List.mem_cons.mp hr with rfl | hr
      · show 0 < r.2 + 1
        omega
      · have := h r hr
        show 0 < r.2 + 1
        omega
theorem incl_count {bs : List Int} (hb : ∀ b ∈ bs, 0 < b) (n : Nat) : (lotsP bs).foldl (tot n) 0 = ((visits bs n).length : Int) := by
  obtain ⟨Q, e, hQ⟩ := lots_head bs [] (1, 0) (fun q hq => nomatch hq) (by decide)
  have c := AD_count hb n
  unfold lotsP at c ⊢
  rw [e] at c ⊢
  have c1 : AD ((1, 0) :: Q) n = (n : Int) + AD Q n := by simp [AD, ev1]
  rw [c1] at c
  rw [List.foldl_cons, tot_sum Q _ hQ]
  have : tot (n : Int) 0 (1, 0) = 0 := by simp [tot]
  rw [this]
  omega
noncomputable def c_plain_many := gOf (fun a : List Int × Nat => [sv a.1, .int (a.2 : Int)]) (fun a => Belt a.1 ∧ a.2 ≤ 1000) (fun a => .int ((visits a.1 a.2).length : Int))
theorem q_plain_many {bs : List Int} {n : Nat} (h : Belt bs) (h1 : n ≤ 1000) : c_plain_many [sv bs, .int (n : Int)] = some (.int ((visits bs n).length : Int)) := gOf_eq (f := fun a : List Int × Nat => [sv a.1, .int (a.2 : Int)]) (fun a b h => by
  obtain ⟨e1, e2⟩ := injS h
  rw [e1, show a.2 = b.2 by omega]) (a := (bs, n)) ⟨h, h1⟩
theorem PB_lots : ∀ (bs : List Int) (P : List (Int × Int)) (k : Nat), PB k P → (∀ b ∈ bs, 0 < b ∧ b ≤ 400) → PB (bs.length + k) (bs.foldl stepP P)
  | [], P, k, h, _ => by simpa using h
  | b :: bs, P, k, h, hb => by
    have := PB_lots bs (stepP P b) (k + 1) (h.step (hb b List.mem_cons_self)) fun x hx => hb x (List.mem_cons_of_mem _ hx)
    rw [show (b :: bs).length + k = bs.length + (k + 1) by simp; omega]
    exact this
theorem l_plain_many : ∀ ds d, ds.length = 2 → c_plain_many ds = some d → m_plain_many c_shared c_check_service (seP d) (envP ds 5) := by
  intro ds d _ h
  obtain ⟨⟨bs, n⟩, ⟨hb, h1⟩, rfl, rfl⟩ := gOf_inv h
  simp only at hb h1
  have hl6 := hb.len
  have b4 : ∀ b ∈ bs, 0 < b ∧ b ≤ 400 := fun b h => ⟨hb.pos b h, (hb.lim b h).2⟩
  have pb0 : PB 0 [((1 : Int), (0 : Int))] := ⟨rfl, by simp⟩
  have pb := PB_lots bs _ 0 pb0 b4
  simp [m_plain_many, q_check_service hb (show (0 : Int) ≤ (n : Int) by omega) (show (n : Int) ≤ 1000 by omega)]
  refine fm_incl _ bs [(1, 0)] 0 .no rfl pb0 (by omega) b4 fun s4 => ?_
  simp
  refine fm_tot _ (show (0 : Int) ≤ (n : Int) by omega) (show (n : Int) ≤ 1000 by omega) (bs.foldl stepP [(1, 0)]) 0 .no .no rfl rfl (fun p hp => ?_) fun s5 s6 => ?_
  · have q := (pb.2 p hp).1
    have := p400 (show bs.length + 0 ≤ 6 by omega)
    have e : (400 : Int) ^ 6 = 4096000000000000 := by decide
    omega
  · have := incl_count hb.pos n
    unfold lotsP at this
    simp [this]
end K97

set_option Elab.async false
set_option linter.all false
set_option maxRecDepth 100000
set_option maxHeartbeats 4000000
/-! K97i: joined visits and what is counted by them. -/
namespace K97
open PySem PySem.Spec PyProof.Rows L2 Pd Gen
/-! the least of some -/
theorem foldl_min_le : ∀ (xs : List Int) (x : Int), xs.foldl min x ≤ x ∧ ∀ y ∈ xs, xs.foldl min x ≤ y
  | [], x => ⟨Int.le_refl _, fun y hy => nomatch hy⟩
  | z :: xs, x => by
    obtain ⟨a, b⟩ := foldl_min_le xs (min x z)
    refine ⟨Int.le_trans a (Int.min_le_left _ _), fun y hy => ?_⟩
    rcases List.mem_cons.mp hy with rfl | hy
    · exact Int.le_trans a (Int.min_le_right _ _)
    · exact b y hy
theorem foldl_min_mem : ∀ (xs : List Int) (x : Int), xs.foldl min x = x ∨ xs.foldl min x ∈ xs
  | [], x => .inl rfl
  | z :: xs, x => by
    rw [List.foldl_cons]
    rcases foldl_min_mem xs (min x z) with h | h
    · rw [h]
      rcases Int.le_total x z with l | l
      · exact .inl (Int.min_eq_left l)
      · exact .inr (by rw [Int.min_eq_right l]; exact List.mem_cons_self)
    · exact .inr (List.mem_cons_of_mem _ h)
theorem minL_le {xs : List Int} {y : Int} (h : y ∈ xs) : minL xs ≤ y := by
  cases xs with
  | nil => cases h
  | cons x xs =>
    rcases List.mem_cons.mp h with rfl | h
    · exact (foldl_min_le xs y).1
    · exact (foldl_min_le xs x).2 y h
theorem minL_mem {xs : List Int} (h : xs ≠ []) : minL xs ∈ xs := by
  cases xs with
  | nil => exact absurd rfl h
  | cons x xs =>
    rcases foldl_min_mem xs x with e | e
    · show xs.foldl min x ∈ _
      rw [e]
      exact List.mem_cons_self
    · exact List.mem_cons_of_mem _ e
theorem next_gt {c b : Int} (hb : 0 < b) : c < (c / b + 1) * b := by
  have := Int.lt_mul_ediv_self_add (x := c) hb
  rw [Int.add_mul, Int.mul_comm (c / b) b]
  omega
/-- no multiple between -/
theorem next_min {c b d : Int} (hb : 0 < b) (h1 : c < d) (h2 : d % b = 0) : (c / b + 1) * b ≤ d := by
  obtain ⟨q, rfl⟩ := Int.dvd_of_emod_eq_zero h2
  have : c / b < q := Int.ediv_lt_of_lt_mul hb (by rw [Int.mul_comm]; exact h1)
  rw [Int.mul_comm b q]
  exact Int.mul_le_mul_of_nonneg_right (by omega) (by omega)
theorem later_le {bs : List Int} {c b : Int} (h : b ∈ bs) : laterV bs c ≤ (c / b + 1) * b := minL_le (List.mem_map.mpr ⟨b, h, rfl⟩)
theorem later_at {bs : List Int} {c : Int} (h : bs ≠ []) : ∃ b ∈ bs, laterV bs c = (c / b + 1) * b := by
  have : (bs.map fun b => (c / b + 1) * b) ≠ [] := by simpa using h
  obtain ⟨b, hb, e⟩ := List.mem_map.mp (minL_mem this)
  exact ⟨b, hb, e.symm⟩
theorem later_gt {bs : List Int} {c : Int} (h : bs ≠ []) (hp : ∀ b ∈ bs, 0 < b) : c < laterV bs c := by
  obtain ⟨b, hb, e⟩ := later_at (c := c) h
  rw [e]
  exact next_gt (hp b hb)
/-- what is due at the next visit -/
theorem due_iff {bs : List Int} {c b : Int} (hp : ∀ b ∈ bs, 0 < b) (hne : bs ≠ []) (h : b ∈ bs) : (c / b + 1) * b ≤ laterV bs c ↔ laterV bs c % b = 0 := by
  constructor
  · intro l
    have := later_le (c := c) h
    have e : laterV bs c = (c / b + 1) * b := by omega
    rw [e]
    exact Int.mul_emod_left _ _
  · intro l
    exact next_min (hp b h) (later_gt hne hp) l
theorem none_between {bs : List Int} {c d : Int} (hp : ∀ b ∈ bs, 0 < b) (h1 : c < d) (h2 : d < laterV bs c) : (bs.any fun b => decide (d % b = 0)) = false := by
  rw [List.any_eq_false]
  intro b hb
  simp only [decide_eq_true_eq]
  intro z
  have := next_min (hp b hb) h1 z
  have := later_le (c := c) hb
  omega
theorem visits_stay {bs : List Int} : ∀ (m n : Nat), (∀ d : Int, (n : Int) < d → d ≤ (n + m : Nat) → (bs.any fun b => decide (d % b = 0)) = false) → visits bs (n + m) = visits bs n
  | 0, n, _ => rfl
  | m + 1, n, h => by
    have ih := visits_stay m n fun d h1 h2 => h d h1 (by omega)
    rw [← Nat.add_assoc, visits_succ, ih]
    have := h ((n + m : Nat) + 1) (by omega) (by omega)
    rw [if_neg (by rw [this]; decide), List.append_nil]
def lastL (bs : List Int) (c : Int) : List Int := bs.map fun b => c / b * b
def rowsJ (bs : List Int) (n : Nat) : List D := (visits bs n).map fun d => .tuple [.int d, tN (dueL bs d)]
theorem frz_rowsJ {bs : List Int} {n : Nat} : frozenL (rowsJ bs n) = true := fz_map (fun d => by simp) _
theorem visits_le {bs : List Int} {n : Nat} : (visits bs n).length ≤ n := by
  unfold visits
  refine Nat.le_trans (List.length_filter_le _ _) ?_
  simp
theorem mem_due {bs : List Int} {d : Int} {i : Nat} : i ∈ dueL bs d ↔ ∃ b, bs[i]? = some b ∧ d % b = 0 := by
  unfold dueL
  rw [List.mem_map]
  constructor
  · rintro ⟨⟨b, j⟩, h, rfl⟩
    obtain ⟨h1, h2⟩ := List.mem_filter.mp h
    exact ⟨b, List.mem_zipIdx_iff_getElem?.mp h1, by simpa using h2⟩
  · rintro ⟨b, h1, h2⟩
    exact ⟨(b, i), List.mem_filter.mpr ⟨List.mem_zipIdx_iff_getElem?.mpr h1, by simpa using h2⟩, rfl⟩
theorem due_lt {bs : List Int} {d : Int} {i : Nat} (h : i ∈ dueL bs d) : i < bs.length := by
  obtain ⟨b, h1, _⟩ := mem_due.mp h
  exact (List.getElem?_eq_some_iff.mp h1).1
/-- all of them set -/
def setAll (l : List Int) (js : List Nat) (v : Int) : List Int := js.foldl (fun l j => l.set j v) l
theorem setAll_len : ∀ (js : List Nat) (l : List Int) (v : Int), (setAll l js v).length = l.length
  | [], l, v => rfl
  | j :: js, l, v => (setAll_len js (l.set j v) v).trans (by simp)
theorem setAll_get : ∀ (js : List Nat) (l : List Int) (v : Int) (i : Nat), i < l.length → (setAll l js v)[i]? = if i ∈ js then some v else l[i]?
  | [], l, v, i, h => by simp [setAll]
  | j :: js, l, v, i, h => by
    have ih := setAll_get js (l.set j v) v i (by simpa using h)
    show (setAll (l.set j v) js v)[i]? = _
    rw [ih]
    by_cases h1 : i ∈ js
    · simp [h1]
    · by_cases h2 : j = i
      · subst h2
        simp [h1, List.getElem?_set_self h]
      · have h3 : ¬ i = j := fun z => h2 z.symm
        simp [h1, h3, List.getElem?_set_ne h2]
theorem last_next {bs : List Int} {c : Int} (hp : ∀ b ∈ bs, 0 < b) (hne : bs ≠ []) : setAll (lastL bs c) (dueL bs (laterV bs c)) (laterV bs c) = lastL bs (laterV bs c) := by
  refine List.ext_getElem? fun i => ?_
  by_cases h : i < bs.length
  · rw [setAll_get _ _ _ _ (by simpa [lastL] using h)]
    have hb := List.getElem?_eq_getElem h
    have hm : bs[i] ∈ bs := List.getElem_mem h
    have hpos := hp _ hm
    unfold lastL
    rw [List.getElem?_map, List.getElem?_map, hb]
    simp only [Option.map_some]
    by_cases hd : laterV bs c % bs[i] = 0
    · rw [if_pos (mem_due.mpr ⟨_, hb, hd⟩), Int.ediv_mul_cancel (Int.dvd_of_emod_eq_zero hd)]
    · have nd : i ∉ dueL bs (laterV bs c) := fun z => by
        obtain ⟨b, e, q⟩ := mem_due.mp z
        rw [hb] at e
        cases e
        exact hd q
      rw [if_neg nd]
      have l1 := later_gt (c := c) hne hp
      have l2 := later_le (c := c) hm
      have l3 : laterV bs c ≠ (c / bs[i] + 1) * bs[i] := fun e => hd (by rw [e]; exact Int.mul_emod_left _ _)
      have e : laterV bs c / bs[i] = c / bs[i] := by
        have a1 : laterV bs c / bs[i] < c / bs[i] + 1 := Int.ediv_lt_of_lt_mul hpos (by omega)
        have a2 : c / bs[i] ≤ laterV bs c / bs[i] := Int.ediv_le_ediv hpos (by omega)
        omega
      rw [e]
  · rw [List.getElem?_eq_none (by rw [setAll_len]; simp [lastL]; omega), List.getElem?_eq_none (by simp [lastL]; omega)]
section
variable {A0 A1 s7 s8 : Slot}
theorem fm_last (S : SE) {day : Int} {s3 s5 : Slot} : ∀ (js : List Nat) (l : List Int) (s6 : Slot), notIo (some s6) = true → (∀ j ∈ js, j < l.length) → (∀ s6, notIo (some s6) = true → S.nx [A0, A1, .ow (.list ((setAll l js day).map .int)), s3, .ow (.int day), s5, s6, s7, s8]) →
    forM (bbName 6) (sAsg (bSub 2 (eVar 6)) (mVar 4)) (nI js) S [A0, A1, .ow (.list (l.map .int)), s3, .ow (.int day), s5, s6, s7, s8] := by
  intro js
  induction js with
  | nil => intro l s6 h6 _ h; exact h s6 h6
  | cons j js ih =>
    intro l s6 h6 hj h
    have hj0 := hj j List.mem_cons_self
    have ih2 := ih (l.set j day) (.ow (.int (j : Int))) rfl (fun x hx => by simpa using hj x (List.mem_cons_of_mem _ hx)) h
    have ix : ixN (l.map PyData.int).length (j : Int) = some j := by
      unfold ixN
      simp only [List.length_map]
      split
      · split
        · simp
        · omega
      · omega
    have gs : gSetL (.list (l.map .int)) (.int (j : Int)) (.int day) = some (.list ((l.set j day).map .int)) := by
      show (ixN (l.map PyData.int).length (j : Int)).map _ = _
      rw [ix, Option.map_some, List.map_set]
    simp only [nI, List.map_cons]
    rw [ev_fcons]
    simp only [ev_bbname, List.getElem?_cons_succ, List.getElem?_cons_zero, h6, if_true, ev_os, List.set_cons_succ, List.set_cons_zero, ts_int, ev_asg, ev_mvarS, ev_mvar0, fz_int, Option.map_some, ev_bsub, ev_var, ev_getS, ev_get0, ev_val1, Option.bind_some, ev_mineAtS, ev_mineAt0, ev_mine1, gs, ev_setmS, ev_setm0]
    exact ih2
abbrev bodyJ : FS := sSeq (sSet 4 (mP (eCall gMin (aCons (eLc [8, 7] (iOf giZip (aCons (eVar 2) (aCons (eVar 0) aNil))) (bTup (bCons (bName 8) (bCons (bName 7) bNil))) bTrue (e2 gAdd (eVar 8) (e2 gIx (eVar 7) (eC (.int 0))))) aNil))))
  (sSeq (sIf (mT (tst (e2 cmpGt (eVar 4) (eVar 1)))) (sRet (mP (eCall gTupOf (aCons (eVar 3) aNil)))) sNext)
  (sSeq (sSet 5 (mP (eLc [6, 7] (iOf giEnum (aCons (eVar 0) aNil)) (bTup (bCons (bName 6) (bCons (bName 7) bNil))) (tst (e2 cmpLe (e2 Pd.gSub (e2 gAdd (e2 gIx (eVar 2) (eVar 6)) (e2 gIx (eVar 7) (eC (.int 0)))) (e2 gIx (eVar 7) (eC (.int 1)))) (eVar 4))) (eFrz (eVar 6)))))
  (sSeq (sFor (miSelf (mLend 5)) (bbName 6) (sAsg (bSub 2 (eVar 6)) (mVar 4)))
  (sExpr (mApp 3 (mP (eTup (aCons (eFrz (eVar 4)) (aCons (eCall gTupOf (aCons (eVar 5) aNil)) aNil)))))))))
theorem zip_last {bs : List Int} {c : Int} : (lastL bs c).zip bs = bs.map fun b => (c / b * b, b) := by
  unfold lastL
  induction bs with
  | nil => rfl
  | cons b bs ih => simp [ih]
theorem lc_min {bs : List Int} {c : Int} {A0 A1 A2 A3 s4 s5 s6 : Slot} : compL (bTup (bCons (bName 8) (bCons (bName 7) bNil))) bTrue (e2 gAdd (eVar 8) (e2 gIx (eVar 7) (eC (.int 0)))) [A0, A1, A2, A3, s4, s5, s6, .no, .no] (((lastL bs c).zip bs).map fun p => .tuple [.int p.1, pr p.2]) = some ((bs.map fun b => (c / b + 1) * b).map .int) := by
  rw [lcMap (h := fun p : Int × Int => .int (p.1 + p.2))]
  · rw [zip_last, List.map_map, List.map_map]
    congr 1
    refine List.map_congr_left fun b _ => ?_
    show PyData.int _ = PyData.int _
    congr 1
    show c / b * b + b = (c / b + 1) * b
    rw [Int.add_mul]
    omega
  · intro p _
    simp
theorem lc_some {bs : List Int} {c : Int} (hb : Belt bs) {A0 A1 A3 s5 : Slot} : compL (bTup (bCons (bName 6) (bCons (bName 7) bNil))) (tst (e2 cmpLe (e2 Pd.gSub (e2 gAdd (e2 gIx (eVar 2) (eVar 6)) (e2 gIx (eVar 7) (eC (.int 0)))) (e2 gIx (eVar 7) (eC (.int 1)))) (eVar 4))) (eFrz (eVar 6)) [A0, A1, .ow (.list ((lastL bs c).map .int)), A3, .ow (.int (laterV bs c)), s5, .no, .no, .no] (bs.zipIdx.map fun p => .tuple [.int (p.2 : Int), pr p.1]) = some (nI (dueL bs (laterV bs c))) := by
  have hne : bs ≠ [] := fun z => by have := hb.ne; rw [z] at this; simp at this
  rw [lcFilter (p := fun p : Int × Nat => decide (laterV bs c % p.1 = 0)) (h := fun p => .int (p.2 : Int))]
  · simp [dueL, nI]
  · intro p hp
    obtain ⟨b, i⟩ := p
    have hm : b ∈ bs := zipIdx_mem1 hp
    have hi := List.mem_zipIdx_iff_getElem?.mp hp
    have ix : gIx (.list ((lastL bs c).map .int)) (.int (i : Int)) = some (.int (c / b * b)) := ix_lm (by unfold lastL; rw [List.getElem?_map, hi]; rfl)
    have du := due_iff (c := c) hb.pos hne hm
    rw [Int.add_mul] at du
    have du2 : c / b * b + b - 0 ≤ laterV bs c ↔ laterV bs c % b = 0 := by
      rw [← du]
      omega
    simp only [Int.sub_zero] at du2
    simp [ix]
    by_cases h : laterV bs c % b = 0
    · simp [h, du2.mpr h]
    · have : ¬ c / b * b + b ≤ laterV bs c := fun z => h (du2.mp z)
      simp [h, this]
theorem turn_join {bs : List Int} {n : Nat} (hb : Belt bs) (h1 : n ≤ 1000) (N B : En → Prop) (R : D → En → Prop) (c : Nat) (s4 s5 s6 : Slot) (hc : c ≤ n) (h4 : notIo (some s4) = true) (h5 : notIo (some s5) = true) (h6 : notIo (some s6) = true)
    (hR : (n : Int) < laterV bs c → ∀ ε, R (.tuple (rowsJ bs c)) ε)
    (hN : ∀ c' : Nat, laterV bs c = (c' : Int) → c' ≤ n → ∀ s4 s5 s6, notIo (some s4) = true → notIo (some s5) = true → notIo (some s6) = true → N [.ow (sv bs), .ow (.int (n : Int)), .ow (.list ((lastL bs c').map .int)), .ow (.list (rowsJ bs c')), s4, s5, s6, .no, .no]) :
    bodyJ ⟨N, R, B, N⟩ [.ow (sv bs), .ow (.int (n : Int)), .ow (.list ((lastL bs c).map .int)), .ow (.list (rowsJ bs c)), s4, s5, s6, .no, .no] := by
  have hl6 := hb.len
  have hne : bs ≠ [] := fun z => by have := hb.ne; rw [z] at this; simp at this
  have c1 : ((lastL bs c).zip bs).length ≤ cap := capL (by simp [lastL]; omega)
  have c2 : bs.zipIdx.length ≤ cap := capL (by simp; omega)
  have mn : gMin [.list ((bs.map fun b => ((c : Int) / b + 1) * b).map .int)] = some (.int (laterV bs c)) := min_of (by simpa using hne)
  have zz : giZip [.list ((lastL bs c).map .int), .tuple (bs.map pr)] = some (((lastL bs c).zip bs).map fun p => .tuple [.int p.1, pr p.2]) := gi_zipLT
  have tf := gl_tupL (frz_rowsJ (bs := bs) (n := c))
  simp only [bodyJ, ev_seq, ev_set, ev_mP, ev_call, ev_acons, ev_anil, ev_lc, ev_iof, ev_var, ev_getS, ev_get0, ev_val1, Option.bind_some, zz, List.length_map, c1, if_true, ev_wipeS, ev_wipe0, List.set_cons_succ, List.set_cons_zero, lc_min, Option.map_some, mn, ev_os, List.getElem?_cons_succ, List.getElem?_cons_zero, h4, true_and, ev_if, ev_mT, ev_tst, ev_e2, cg_ii, ev_toB]
  by_cases hlt : (n : Int) < laterV bs c
  · simp only [decide_eq_true hlt, if_true, ev_ret, ev_mP, ev_call, ev_acons, ev_anil, ev_var, ev_getS, ev_get0, ev_val1, Option.bind_some, tf, Option.map_some, ev_os]
    exact hR hlt _
  · have gt := later_gt (c := (c : Int)) hne hb.pos
    obtain ⟨c', e⟩ : ∃ c' : Nat, laterV bs c = (c' : Int) := ⟨(laterV bs c).toNat, by omega⟩
    have hc' : c' ≤ n := by omega
    have tw := gl_tupL (fz_nI (ws := dueL bs (laterV bs c)))
    have hlast := last_next (c := (c : Int)) hb.pos hne
    have rws : rowsJ bs c' = rowsJ bs c ++ [.tuple [.int (laterV bs c), tN (dueL bs (laterV bs c))]] := by
      have v1 : visits bs c' = visits bs c ++ [laterV bs c] := by
        have st := visits_stay (bs := bs) (c' - 1 - c) c fun d h1 h2 => none_between hb.pos h1 (by omega)
        have e1 : c + (c' - 1 - c) + 1 = c' := by omega
        have v2 := visits_succ (bs := bs) (n := c + (c' - 1 - c))
        rw [e1, st] at v2
        have e2 : (((c + (c' - 1 - c) : Nat) : Int) + 1) = laterV bs c := by omega
        rw [e2] at v2
        have an : (bs.any fun b => decide (laterV bs c % b = 0)) = true := by
          rw [List.any_eq_true]
          obtain ⟨b, hm, eb⟩ := later_at (c := (c : Int)) hne
          refine ⟨b, hm, ?_⟩
          rw [decide_eq_true_eq, eb]
          exact Int.mul_emod_left _ _
        rw [if_pos an] at v2
        exact v2
      unfold rowsJ
      rw [v1, List.map_append]
      rfl
    simp only [decide_eq_false hlt, Bool.false_eq_true, if_false, ev_next, ev_set, ev_mP, ev_lc, ev_iof, ev_acons, ev_anil, ev_var, ev_getS, ev_get0, ev_val1, Option.bind_some, gi_enum, List.length_map, c2, if_true, ev_wipeS, ev_wipe0, List.set_cons_succ, List.set_cons_zero, lc_some hb, Option.map_some, ev_os, List.getElem?_cons_succ, List.getElem?_cons_zero, h5, true_and, ev_seq, ev_for, ev_miself, ev_lendS, ev_lend0, fz_list, it_l]
    refine fm_last _ (dueL bs (laterV bs c)) (lastL bs c) s6 h6 (fun j hj => by simpa [lastL] using due_lt hj) fun s6 h6 => ?_
    have cR : (rowsJ bs c).length ≤ cap := by
      unfold rowsJ
      rw [List.length_map]
      have := visits_le (bs := bs) (n := c)
      exact capL (by omega)
    have ga : gApp (.list (rowsJ bs c)) (.tuple [.int (laterV bs c), tN (dueL bs (laterV bs c))]) = some (.list (rowsJ bs c')) := by
      rw [rws]
      exact if_pos cR
    simp only [tN] at ga
    rw [hlast, e]
    rw [e] at ga tw
    simp [isLst, tw, ga]
    exact hN c' e hc' _ _ _ rfl rfl h6
theorem wh_join {bs : List Int} {n : Nat} (hb : Belt bs) (h1 : n ≤ 1000) (S : SE) (hS : ∀ ε, S.rt (.tuple (rowsJ bs n)) ε) : ∀ (k c : Nat) (s4 s5 s6 : Slot), c ≤ n → n - c ≤ k → notIo (some s4) = true → notIo (some s5) = true → notIo (some s6) = true →
    whM (mT (tst (eC (.bool true)))) bodyJ (k + 1) S [.ow (sv bs), .ow (.int (n : Int)), .ow (.list ((lastL bs c).map .int)), .ow (.list (rowsJ bs c)), s4, s5, s6, .no, .no] := by
  have hne : bs ≠ [] := fun z => by have := hb.ne; rw [z] at this; simp at this
  have fin : ∀ c : Nat, c ≤ n → (n : Int) < laterV bs c → ∀ ε, S.rt (.tuple (rowsJ bs c)) ε := fun c hc hlt => by
    have st := visits_stay (bs := bs) (n - c) c fun d h1 h2 => none_between hb.pos h1 (by omega)
    rw [show c + (n - c) = n by omega] at st
    have : rowsJ bs c = rowsJ bs n := by unfold rowsJ; rw [st]
    rw [this]
    exact hS
  intro k
  induction k with
  | zero =>
    intro c s4 s5 s6 hc hk h4 h5 h6
    rw [ev_wh]
    simp only [ev_mT, ev_tst, ev_c, Option.bind_some, ev_toB, Option.map_some, ev_os, if_true]
    refine turn_join hb h1 _ _ _ c s4 s5 s6 hc h4 h5 h6 (fin c hc) fun c' e hc' => ?_
    have := later_gt (c := (c : Int)) hne hb.pos
    omega
  | succ k ih =>
    intro c s4 s5 s6 hc hk h4 h5 h6
    rw [ev_wh]
    simp only [ev_mT, ev_tst, ev_c, Option.bind_some, ev_toB, Option.map_some, ev_os, if_true]
    refine turn_join hb h1 _ _ _ c s4 s5 s6 hc h4 h5 h6 (fin c hc) fun c' e hc' s4 s5 s6 h4 h5 h6 => ?_
    have := later_gt (c := (c : Int)) hne hb.pos
    exact ih c' s4 s5 s6 hc' (by omega) h4 h5 h6
end
noncomputable def c_joined_visits := gOf (fun a : List Int × Nat => [sv a.1, .int (a.2 : Int)]) (fun a => Belt a.1 ∧ a.2 ≤ 1000) (fun a => .tuple (rowsJ a.1 a.2))
theorem injSN {xs ys : List Int} {a b : Nat} (h : [sv xs, PyData.int (a : Int)] = [sv ys, .int (b : Int)]) : xs = ys ∧ a = b := by
  obtain ⟨e1, e2⟩ := injS h
  exact ⟨e1, by omega⟩
theorem q_joined_visits {bs : List Int} {n : Nat} (h : Belt bs) (h1 : n ≤ 1000) : c_joined_visits [sv bs, .int (n : Int)] = some (.tuple (rowsJ bs n)) := gOf_eq (f := fun a : List Int × Nat => [sv a.1, .int (a.2 : Int)]) (fun a b h => by
  obtain ⟨e1, e2⟩ := injSN h
  rw [e1, e2]) (a := (bs, n)) ⟨h, h1⟩
theorem l_joined_visits : ∀ ds d, ds.length = 2 → c_joined_visits ds = some d → m_joined_visits c_check_service (seP d) (envP ds 7) := by
  intro ds d _ h
  obtain ⟨⟨bs, n⟩, ⟨hb, h1⟩, rfl, rfl⟩ := gOf_inv h
  simp only at hb h1
  have hl6 := hb.len
  have e0 : gMul (.list [.int 0]) (.int (bs.length : Int)) = some (.list ((lastL bs 0).map .int)) := by
    show (if (0 : Int) ≤ (bs.length : Int) ∧ (bs.length : Int) ≤ 10000 ∧ [PyData.int 0].length * ((bs.length : Int)).toNat ≤ cap ∧ frozenL [PyData.int 0] = true then some (PyData.list (List.replicate ((bs.length : Int)).toNat [PyData.int 0]).flatten) else none) = _
    rw [if_pos ⟨by omega, by omega, capL (by simp; omega), rfl⟩]
    congr 2
    rw [Int.toNat_natCast]
    have : lastL bs 0 = List.replicate bs.length 0 := by
      unfold lastL
      rw [List.eq_replicate_iff]
      refine ⟨by simp, fun x hx => ?_⟩
      obtain ⟨b, _, rfl⟩ := List.mem_map.mp hx
      simp
    rw [this]
    induction bs.length with
    | zero => rfl
    | succ k ih => rw [List.replicate_succ, List.replicate_succ, List.flatten_cons, ih]; rfl
  simp [m_joined_visits, q_check_service hb (show (0 : Int) ≤ (n : Int) by omega) (show (n : Int) ≤ 1000 by omega), e0]
  rw [ev_while]
  exact ⟨_, wh_join hb h1 _ (fun ε => rfl) n 0 .no .no .no (by omega) (by omega) rfl rfl rfl⟩
end K97

set_option Elab.async false
set_option linter.all false
set_option maxRecDepth 100000
set_option maxHeartbeats 4000000
/-! K97j: what is counted by the joined visits; sooner_of. -/
namespace K97
open PySem PySem.Spec PyProof.Rows L2 Pd Gen
noncomputable def c_visits_many := gOf (fun a : List Int × Nat => [sv a.1, .int (a.2 : Int)]) (fun a => Belt a.1 ∧ a.2 ≤ 1000) (fun a => .int ((visits a.1 a.2).length : Int))
theorem q_visits_many {bs : List Int} {n : Nat} (h : Belt bs) (h1 : n ≤ 1000) : c_visits_many [sv bs, .int (n : Int)] = some (.int ((visits bs n).length : Int)) := gOf_eq (f := fun a : List Int × Nat => [sv a.1, .int (a.2 : Int)]) (fun a b h => by
  obtain ⟨e1, e2⟩ := injSN h
  rw [e1, e2]) (a := (bs, n)) ⟨h, h1⟩
theorem l_visits_many : ∀ ds d, ds.length = 2 → c_visits_many ds = some d → m_visits_many c_joined_visits (seP d) (envP ds 0) := by
  intro ds d _ h
  obtain ⟨⟨bs, n⟩, ⟨hb, h1⟩, rfl, rfl⟩ := gOf_inv h
  simp only at hb h1
  simp [m_visits_many, q_joined_visits hb h1, rowsJ]
noncomputable def c_saved_visits := gOf (fun a : List Int × Nat => [sv a.1, .int (a.2 : Int)]) (fun a => Belt a.1 ∧ a.2 ≤ 1000) (fun a => .int 0)
theorem q_saved_visits {bs : List Int} {n : Nat} (h : Belt bs) (h1 : n ≤ 1000) : c_saved_visits [sv bs, .int (n : Int)] = some (.int 0) := gOf_eq (fun _ _ _ => rfl) (a := (bs, n)) ⟨h, h1⟩
theorem l_saved_visits : ∀ ds d, ds.length = 2 → c_saved_visits ds = some d → m_saved_visits c_plain_visits c_visits_many (seP d) (envP ds 0) := by
  intro ds d _ h
  obtain ⟨⟨bs, n⟩, ⟨hb, h1⟩, rfl, rfl⟩ := gOf_inv h
  simp only at hb h1
  simp [m_saved_visits, q_plain_visits hb h1, q_visits_many hb h1]
/-! done_many -/
theorem in_lot {i : Nat} {lot : List Nat} : cmpIn (.int (i : Int)) (tN lot) = some (.bool (decide (i ∈ lot))) := by
  have e : tN lot = tI (lot.map fun i : Nat => (i : Int)) := by simp [tN, nI]
  rw [e, ci_it]
  congr 2
  have : ((i : Int) ∈ lot.map fun i : Nat => (i : Int)) ↔ i ∈ lot := by
    rw [List.mem_map]
    constructor
    · rintro ⟨j, hj, e⟩
      have : j = i := by omega
      rwa [← this]
    · intro h
      exact ⟨i, h, rfl⟩
  by_cases h : i ∈ lot
  · rw [decide_eq_true (this.mpr h)]; simp [h]
  · rw [decide_eq_false (fun z => h (this.mp z))]; simp [h]
theorem cnt_due {bs : List Int} {b : Int} (hm : b ∈ bs) (hb : 0 < b) : ∀ n : Nat, (((visits bs n).filter fun d => decide (d % b = 0)).length : Int) = (n : Int) / b
  | 0 => by simp [visits]
  | n + 1 => by
    have ih := cnt_due hm hb n
    rw [visits_succ, List.filter_append, List.length_append, Int.natCast_add, ih, show ((n + 1 : Nat) : Int) = (n : Int) + 1 by omega, succ_ediv hb]
    congr 1
    by_cases h : ((n : Int) + 1) % b = 0
    · have an : (bs.any fun b => decide (((n : Int) + 1) % b = 0)) = true := by
        rw [List.any_eq_true]
        exact ⟨b, hm, by simpa using h⟩
      rw [if_pos an, if_pos h]
      simp [h]
    · rw [if_neg h]
      split <;> simp [h]
def doneL (bs : List Int) (n : Int) : List Int := bs.map fun b => n / b
noncomputable def c_done_many := gOf (fun a : List Int × Nat => [sv a.1, .int (a.2 : Int)]) (fun a => Belt a.1 ∧ a.2 ≤ 1000) (fun a => tI (doneL a.1 (a.2 : Int)))
theorem q_done_many {bs : List Int} {n : Nat} (h : Belt bs) (h1 : n ≤ 1000) : c_done_many [sv bs, .int (n : Int)] = some (tI (doneL bs (n : Int))) := gOf_eq (f := fun a : List Int × Nat => [sv a.1, .int (a.2 : Int)]) (fun a b h => by
  obtain ⟨e1, e2⟩ := injSN h
  rw [e1, e2]) (a := (bs, n)) ⟨h, h1⟩
theorem lc_cnt {bs : List Int} {n i : Nat} {A0 A1 A2 : Slot} : compL (bTup (bCons (bName 4) (bCons (bName 5) bNil))) (tst (e2 cmpIn (eVar 3) (eVar 5))) (eC (.int 1)) [A0, A1, A2, .bo (.int (i : Int)), .no, .no] (rowsJ bs n) = some (((visits bs n).filter fun d => decide (i ∈ dueL bs d)).map fun _ => .int 1) := by
  unfold rowsJ
  rw [lcFilter (p := fun d : Int => decide (i ∈ dueL bs d)) (h := fun _ => .int 1)]
  intro d _
  have e := in_lot (i := i) (lot := dueL bs d)
  simp only [tN] at e
  simp only [ev_btup, ev_bcons, ev_bnil, ev_bname, List.set_cons_succ, List.set_cons_zero, Option.bind_some, ev_tst, ev_e2, ev_var, ev_getS, ev_get0, ev_val2, ev_val1, e, ev_toB, ev_c, Option.map_some]
  by_cases h : i ∈ dueL bs d <;> simp [h]
theorem l_done_many : ∀ ds d, ds.length = 2 → c_done_many ds = some d → m_done_many c_joined_visits (seP d) (envP ds 4) := by
  intro ds d _ h
  obtain ⟨⟨bs, n⟩, ⟨hb, h1⟩, rfl, rfl⟩ := gOf_inv h
  simp only at hb h1
  have hl6 := hb.len
  have cr : (rowsJ bs n).length ≤ cap := by
    unfold rowsJ
    rw [List.length_map]
    have := visits_le (bs := bs) (n := n)
    exact capL (by omega)
  have lc : compL (bName 3) bTrue (eCall gLen (aCons (eLc [4, 5] (iSelf (eVar 2)) (bTup (bCons (bName 4) (bCons (bName 5) bNil))) (tst (e2 cmpIn (eVar 3) (eVar 5))) (eC (.int 1))) aNil)) [.ow (sv bs), .ow (.int (n : Int)), .ow (.tuple (rowsJ bs n)), .no, .no, .no] ((List.range bs.length).map fun i : Nat => .int (i : Int)) = some ((List.range bs.length).map fun i : Nat => .int (((visits bs n).filter fun d => decide (i ∈ dueL bs d)).length : Int)) := by
    refine lcMap fun i hi => ?_
    simp only [ev_bname, List.set_cons_succ, List.set_cons_zero, Option.bind_some, ev_call, ev_acons, ev_anil, ev_lc, ev_iself, ev_var, ev_getS, ev_get0, ev_val1, it_t, cr, if_true, ev_wipeS, ev_wipe0, lc_cnt, Option.map_some, ln_l, List.length_map]
  have res : ((List.range bs.length).map fun i : Nat => PyData.int (((visits bs n).filter fun d => decide (i ∈ dueL bs d)).length : Int)) = (doneL bs (n : Int)).map .int := by
    refine List.ext_getElem? fun i => ?_
    by_cases h : i < bs.length
    · have hb' := List.getElem?_eq_getElem h
      have hm : bs[i] ∈ bs := List.getElem_mem h
      unfold doneL
      rw [List.getElem?_map, List.getElem?_map, List.getElem?_map, hb', List.getElem?_range h]
      simp only [Option.map_some]
      congr 2
      have c := cnt_due hm (hb.pos _ hm) n
      rw [← c]
      congr 2
      refine List.filter_congr fun d _ => ?_
      have : i ∈ dueL bs d ↔ d % bs[i] = 0 := by
        rw [mem_due]
        constructor
        · rintro ⟨b, e, q⟩
          rw [hb'] at e
          cases e
          exact q
        · intro q
          exact ⟨_, hb', q⟩
      by_cases q : d % bs[i] = 0
      · simp [q, this.mpr q]
      · have : ¬ i ∈ dueL bs d := fun z => q (this.mp z)
        simp [q, this]
    · rw [List.getElem?_eq_none (by simp; omega), List.getElem?_eq_none (by simp [doneL]; omega)]
  simp [m_done_many, q_joined_visits hb h1, rg1_nat (show bs.length ≤ 1000000 by omega), capL (show bs.length ≤ 1000 by omega)]
  simp only [sv] at lc
  rw [lc, res]
  simp [gl_tupL]
/-! sooner_of -/
def byWay (b km : Int) : Int := if 0 < km then - (-100 * b / km) else b
def soonL (bs : List Int) (km : Int) : List Int := bs.map fun b => min b (byWay b km)
noncomputable def c_sooner_of := gOf (fun a : List Int × Int × Int => [sv a.1, .int a.2.1, .int a.2.2]) (fun a => Belt a.1 ∧ (0 ≤ a.2.1 ∧ a.2.1 ≤ 1000) ∧ 0 ≤ a.2.2 ∧ a.2.2 ≤ 1000) (fun a => tI (soonL a.1 a.2.2))
theorem q_sooner_of {bs : List Int} {n km : Int} (h : Belt bs) (h0 : 0 ≤ n) (h1 : n ≤ 1000) (h2 : 0 ≤ km) (h3 : km ≤ 1000) : c_sooner_of [sv bs, .int n, .int km] = some (tI (soonL bs km)) := gOf_eq (f := fun a : List Int × Int × Int => [sv a.1, .int a.2.1, .int a.2.2]) (fun a b h => by
  simp only [List.cons.injEq, PyData.int.injEq, PyData.tuple.injEq, and_true] at h
  rw [sv_inj h.1, h.2.2]) (a := (bs, n, km)) ⟨h, ⟨h0, h1⟩, h2, h3⟩
theorem fm_soon (S : SE) {A0 A1 : Slot} {km : Int} (h0 : 0 ≤ km) (h1 : km ≤ 1000) : ∀ (bs done : List Int) (s4 s5 : Slot), notIo (some s4) = true → notIo (some s5) = true → (∀ b ∈ bs, 0 < b ∧ b ≤ 400) → bs.length + done.length ≤ 100 → (∀ s4 s5, S.nx [A0, A1, .ow (.int km), .ow (.list ((done ++ soonL bs km).map .int)), s4, s5]) →
    forM (bbName 4) (sSeq (sSet 5 (mP (eIf (tst (e2 cmpGt (eVar 2) (eC (.int 0)))) (e1 gNeg (e2 gFdiv (e2 gMul (e1 gNeg (eC (.int 100))) (e2 gIx (eVar 4) (eC (.int 0)))) (eVar 2))) (eFrz (e2 gIx (eVar 4) (eC (.int 0)))))))
      (sExpr (mApp 3 (mP (eCall gMin (aCons (e2 gIx (eVar 4) (eC (.int 0))) (aCons (eVar 5) aNil))))))) (bs.map pr) S [A0, A1, .ow (.int km), .ow (.list (done.map .int)), s4, s5] := by
  intro bs
  induction bs with
  | nil =>
    intro done s4 s5 _ _ _ _ h
    have := h s4 s5
    simp [soonL] at this
    simpa using this
  | cons b bs ih =>
    intro done s4 s5 h4 h5 hb hl h
    have q := hb b List.mem_cons_self
    simp only [List.length_cons] at hl
    have ih2 := ih (done ++ [min b (byWay b km)]) (.ow (pr b)) (.ow (.int (byWay b km))) rfl rfl (fun x hx => hb x (List.mem_cons_of_mem _ hx)) (by simp; omega) (by
      intro s4 s5
      have := h s4 s5
      rw [List.append_assoc]
      exact this)
    have ga : gApp (.list (done.map .int)) (.int (min b (byWay b km))) = some (.list ((done ++ [min b (byWay b km)]).map .int)) := by
      refine (if_pos ?_).trans (by simp)
      exact capL (by simp; omega)
    have s1 : sm (-100) = true := sm_small (by decide) (by decide)
    have s2 : sm b = true := sm_small (by omega) (by omega)
    have s3 : sm km = true := sm_small (by omega) (by omega)
    rw [List.map_cons, ev_fcons]
    by_cases hk : 0 < km
    · have e : byWay b km = - (-100 * b / km) := if_pos hk
      rw [e] at ih2 ga
      have g1 := op_ii_mul s1 s2
      have g2 := op_ii_div (i := -100 * b) hk s3
      simp [h4, h5, ts_pr, hk, g1, g2, isLst, ga]
      simpa using ih2
    · have e : byWay b km = b := if_neg hk
      rw [e] at ih2 ga
      simp [h4, h5, ts_pr, hk, isLst]
      simp at ga ih2
      simp [ga]
      exact ih2
theorem l_sooner_of : ∀ ds d, ds.length = 3 → c_sooner_of ds = some d → m_sooner_of c_is_within c_check_service (seP d) (envP ds 3) := by
  intro ds d _ h
  obtain ⟨⟨bs, n, km⟩, ⟨hb, ⟨h0, h1⟩, h2, h3⟩, rfl, rfl⟩ := gOf_inv h
  simp only at hb h0 h1 h2 h3
  have hl6 := hb.len
  simp [m_sooner_of, q_check_service hb h0 h1, q_is_within h2 h3]
  refine fm_soon _ h2 h3 bs [] .no .no rfl rfl (fun b h => ⟨hb.pos b h, (hb.lim b h).2⟩) (by simp; omega) fun s4 s5 => ?_
  simp [gl_tupL]
end K97

set_option Elab.async false
set_option linter.all false
set_option maxRecDepth 100000
set_option maxHeartbeats 4000000
/-! K97k: the hand that the law draws from. -/
namespace K97
open PySem PySem.Spec PyProof.Rows L2 Pd Gen
structure Hand where
  cells : List Int
  pos : Nat
  fix : Int
  seed : Int
  cnt : Int
def handD (h : Hand) : D := .list [.list (h.cells.map .int), .int (h.pos : Int), .int h.fix, .int h.seed, .int h.cnt]
structure Hand.Ok (h : Hand) (n : Int) : Prop where
  cells : ∀ c ∈ h.cells, 0 ≤ c ∧ c < 1000000000000000000000000000000000000
  fix : 0 ≤ h.fix ∧ h.fix < 1000000000000000000000000000000000000
  seed : 0 ≤ h.seed ∧ h.seed < 2147483629
  cnt : 0 ≤ h.cnt ∧ h.cnt ≤ n
def Hand.load (h : Hand) : Hand := if h.fix = 0 ∧ h.pos < h.cells.length then
    { h with pos := h.pos + 1, seed := (h.seed * 69621 + h.cells.getD h.pos 0 * 48271 + 17) % 2147483629, fix := if 1000000000000000000 ≤ h.cells.getD h.pos 0 then h.cells.getD h.pos 0 else h.fix }
  else h
def num1 (s c : Int) : Int := (s + 7919 * c) * 40692 % 2147483647
def num2 (a : Int) : Int := a * (a / 1009 + 69621) % 2147483647
def num3 (a : Int) : Int := a * (a / 2003 + 40014) % 2147483563
def Hand.draw (h : Hand) (many : Int) : Int × Hand := if 0 < h.load.fix then (h.load.fix % many, { h.load with fix := h.load.fix / many })
  else (num3 (num2 (num1 h.load.seed (h.load.cnt + 1))) / 16 % many, { h.load with cnt := h.load.cnt + 1 })
theorem Hand.Ok.load {h : Hand} {n : Int} (o : h.Ok n) : h.load.Ok n := by
  unfold Hand.load
  split
  · rename_i hc
    have hm : h.cells.getD h.pos 0 ∈ h.cells := getD_mem hc.2
    have q := o.cells _ hm
    refine ⟨o.cells, ?_, ?_, o.cnt⟩
    · show 0 ≤ (if 1000000000000000000 ≤ h.cells.getD h.pos 0 then h.cells.getD h.pos 0 else h.fix) ∧ (if 1000000000000000000 ≤ h.cells.getD h.pos 0 then h.cells.getD h.pos 0 else h.fix) < _
      split
      · exact q
      · exact o.fix
    · exact ⟨Int.emod_nonneg _ (by decide), Int.emod_lt_of_pos _ (by decide)⟩
  · exact o
theorem Hand.Ok.draw {h : Hand} {n many : Int} (o : h.Ok n) (hm : 0 < many) : (h.draw many).2.Ok (n + 1) ∧ 0 ≤ (h.draw many).1 ∧ (h.draw many).1 < many := by
  have o2 := o.load
  unfold Hand.draw
  split
  · refine ⟨⟨o2.cells, ?_, o2.seed, ?_⟩, Int.emod_nonneg _ (by omega), Int.emod_lt_of_pos _ hm⟩
    · have := o2.fix
      exact ⟨Int.ediv_nonneg this.1 (by omega), Int.lt_of_le_of_lt (Int.ediv_le_self _ this.1) this.2⟩
    · have := o2.cnt
      exact ⟨this.1, by show h.load.cnt ≤ n + 1; omega⟩
  · refine ⟨⟨o2.cells, o2.fix, o2.seed, ?_⟩, Int.emod_nonneg _ (by omega), Int.emod_lt_of_pos _ hm⟩
    have := o2.cnt
    exact ⟨by show 0 ≤ h.load.cnt + 1; omega, by show h.load.cnt + 1 ≤ n + 1; omega⟩
@[simp] theorem set5_1 {a b c d e v : D} : gSetL (.list [a, b, c, d, e]) (.int 1) v = some (.list [a, v, c, d, e]) := rfl
@[simp] theorem set5_2 {a b c d e v : D} : gSetL (.list [a, b, c, d, e]) (.int 2) v = some (.list [a, b, v, d, e]) := rfl
@[simp] theorem set5_3 {a b c d e v : D} : gSetL (.list [a, b, c, d, e]) (.int 3) v = some (.list [a, b, c, v, e]) := rfl
@[simp] theorem set5_4 {a b c d e v : D} : gSetL (.list [a, b, c, d, e]) (.int 4) v = some (.list [a, b, c, d, v]) := rfl
theorem handD_inj {h g : Hand} (e : handD h = handD g) : h = g := by
  obtain ⟨a, b, c, d, f⟩ := h
  obtain ⟨a', b', c', d', f'⟩ := g
  simp only [handD, PyData.list.injEq, List.cons.injEq, PyData.int.injEq, and_true] at e
  obtain ⟨e1, e2, e3, e4, e5⟩ := e
  have e1 := ints_inj e1
  have e2 : b = b' := by omega
  subst e1 e2 e3 e4 e5
  rfl
noncomputable def c_law_draw := gOfI (fun a : Hand × Int => [handD a.1, .int a.2]) (fun a => a.1.Ok 1000000 ∧ 0 < a.2 ∧ a.2 ≤ 1000000000) (fun a => (.int (a.1.draw a.2).1, handD (a.1.draw a.2).2))
theorem q_law_draw {h : Hand} {many : Int} (o : h.Ok 1000000) (h1 : 0 < many) (h2 : many ≤ 1000000000) : c_law_draw [handD h, .int many] = some (.int (h.draw many).1, handD (h.draw many).2) := gOfI_eq (f := fun a : Hand × Int => [handD a.1, .int a.2]) (fun a b h => by
  simp only [List.cons.injEq, PyData.int.injEq, and_true] at h
  have e1 := handD_inj h.1
  have e2 := h.2
  obtain ⟨a1, a2⟩ := a
  obtain ⟨b1, b2⟩ := b
  simp only at e1 e2
  subst e1 e2
  rfl) (a := (h, many)) ⟨o, h1, h2⟩
abbrev restDraw : FS := sSeq (sIf (mT (tst (e2 cmpGt (e2 gIx (eVar 0) (eC (.int 2))) (eC (.int 0))))) (sSeq (sSet 4 (mP (e2 gMod (eCall gInt (aCons (e2 gIx (eVar 0) (eC (.int 2))) aNil)) (eVar 1))))
  (sSeq (sAsg (bSub 0 (eC (.int 2))) (mP (e2 gFdiv (e2 gIx (eVar 0) (eC (.int 2))) (eVar 1))))
  (sRet (mVar 4)))) sNext)
  (sSeq (sAsg (bSub 0 (eC (.int 4))) (mP (e2 gAdd (e2 gIx (eVar 0) (eC (.int 4))) (eC (.int 1)))))
  (sSeq (sSet 2 (mP (e2 gMod (eCall gInt (aCons (e2 gMul (eCall gInt (aCons (e2 gAdd (e2 gIx (eVar 0) (eC (.int 3))) (e2 gMul (eC (.int 7919)) (e2 gIx (eVar 0) (eC (.int 4))))) aNil)) (eC (.int 40692))) aNil)) (eC (.int 2147483647)))))
  (sSeq (sSet 2 (mP (e2 gMod (eCall gInt (aCons (e2 gMul (eVar 2) (e2 gAdd (e2 gFdiv (eVar 2) (eC (.int 1009))) (eC (.int 69621)))) aNil)) (eC (.int 2147483647)))))
  (sSeq (sSet 2 (mP (e2 gMod (eCall gInt (aCons (e2 gMul (eVar 2) (e2 gAdd (e2 gFdiv (eVar 2) (eC (.int 2003))) (eC (.int 40014)))) aNil)) (eC (.int 2147483563)))))
  (sRet (mP (e2 gMod (eCall gInt (aCons (e2 gFdiv (eVar 2) (eC (.int 16))) aNil)) (eVar 1))))))))
def Hand.rd (h : Hand) (many : Int) : Int × Hand := if 0 < h.fix then (h.fix % many, { h with fix := h.fix / many })
  else (num3 (num2 (num1 h.seed (h.cnt + 1))) / 16 % many, { h with cnt := h.cnt + 1 })
theorem Hand.draw_rd (h : Hand) (many : Int) : h.draw many = h.load.rd many := rfl
theorem rest_draw {g : Hand} {many n : Int} (o : g.Ok n) (hn : n ≤ 1000000) (h1 : 0 < many) (h2 : many ≤ 1000000000) (S : SE) {s3 : Slot} (hS : ∀ ε : En, ε[0]? = some (.io (handD (g.rd many).2)) → S.rt (.int (g.rd many).1) ε) :
    restDraw S [.io (handD g), .ow (.int many), .no, s3, .no] := by
  obtain ⟨f0, f1⟩ := o.fix
  obtain ⟨e0, e1⟩ := o.seed
  obtain ⟨c0, c1⟩ := o.cnt
  have sm1 : sm many = true := sm_small (by omega) (by omega)
  by_cases hf : 0 < g.fix
  · have e : g.rd many = (g.fix % many, { g with fix := g.fix / many }) := if_pos hf
    rw [e] at hS
    simp [restDraw, handD, hf, op_ii_mod h1, op_ii_div h1 sm1]
    exact hS _ rfl
  · have e : g.rd many = (num3 (num2 (num1 g.seed (g.cnt + 1))) / 16 % many, { g with cnt := g.cnt + 1 }) := if_neg hf
    rw [e] at hS
    have k1 : (0 : Int) < 2147483647 := by decide
    have k2 : (0 : Int) < 2147483563 := by decide
    have b1 : 0 ≤ num1 g.seed (g.cnt + 1) := Int.emod_nonneg _ (by decide)
    have b2 : num1 g.seed (g.cnt + 1) < 2147483647 := Int.emod_lt_of_pos _ k1
    have b3 : 0 ≤ num2 (num1 g.seed (g.cnt + 1)) := Int.emod_nonneg _ (by decide)
    have b4 : num2 (num1 g.seed (g.cnt + 1)) < 2147483647 := Int.emod_lt_of_pos _ k1
    have m1 : gMul (.int 7919) (.int (g.cnt + 1)) = some (.int (7919 * (g.cnt + 1))) := op_ii_mul (sm_small (by decide) (by decide)) (sm_small (by omega) (by omega))
    have m2 : gMul (.int (g.seed + 7919 * (g.cnt + 1))) (.int 40692) = some (.int ((g.seed + 7919 * (g.cnt + 1)) * 40692)) := op_ii_mul (sm_small (by omega) (by omega)) (sm_small (by decide) (by decide))
    have r1 : gMod (.int ((g.seed + 7919 * (g.cnt + 1)) * 40692)) (.int 2147483647) = some (.int (num1 g.seed (g.cnt + 1))) := op_ii_mod k1
    have d1 : ∀ a : Int, gFdiv (.int a) (.int 1009) = some (.int (a / 1009)) := fun a => op_ii_div (by decide) (sm_small (by decide) (by decide))
    have d2 : ∀ a : Int, gFdiv (.int a) (.int 2003) = some (.int (a / 2003)) := fun a => op_ii_div (by decide) (sm_small (by decide) (by decide))
    have d3 : ∀ a : Int, gFdiv (.int a) (.int 16) = some (.int (a / 16)) := fun a => op_ii_div (by decide) (sm_small (by decide) (by decide))
    have m3 : gMul (.int (num1 g.seed (g.cnt + 1))) (.int (num1 g.seed (g.cnt + 1) / 1009 + 69621)) = some (.int (num1 g.seed (g.cnt + 1) * (num1 g.seed (g.cnt + 1) / 1009 + 69621))) := op_ii_mul (sm_small (by omega) (by omega)) (sm_small (by omega) (by omega))
    have r2 : gMod (.int (num1 g.seed (g.cnt + 1) * (num1 g.seed (g.cnt + 1) / 1009 + 69621))) (.int 2147483647) = some (.int (num2 (num1 g.seed (g.cnt + 1)))) := op_ii_mod k1
    have m4 : gMul (.int (num2 (num1 g.seed (g.cnt + 1)))) (.int (num2 (num1 g.seed (g.cnt + 1)) / 2003 + 40014)) = some (.int (num2 (num1 g.seed (g.cnt + 1)) * (num2 (num1 g.seed (g.cnt + 1)) / 2003 + 40014))) := op_ii_mul (sm_small (by omega) (by omega)) (sm_small (by omega) (by omega))
    have r3 : gMod (.int (num2 (num1 g.seed (g.cnt + 1)) * (num2 (num1 g.seed (g.cnt + 1)) / 2003 + 40014))) (.int 2147483563) = some (.int (num3 (num2 (num1 g.seed (g.cnt + 1))))) := op_ii_mod k2
    simp [restDraw, handD, hf, op_ii_mod h1, m1, m2, r1, d1, d2, d3, m3, r2, m4, r3]
    exact hS _ rfl
theorem l_law_draw : ∀ dpre d dpost r d', dpre.length = 0 → dpre.length + 1 + dpost.length = 2 → c_law_draw (dpre ++ d :: dpost) = some (r, d') → m_law_draw (seI 0 r d') (envI dpre d dpost 3) := by
  intro dpre d dpost r d' hl _ h
  obtain ⟨⟨hd, many⟩, ⟨o, h1, h2⟩, e, q⟩ := gOfI_inv h
  have e0 := List.eq_nil_of_length_eq_zero hl
  subst e0
  simp only [List.nil_append, List.cons.injEq] at e
  obtain ⟨rfl, rfl⟩ := e
  cases q
  simp only at o h1 h2
  have rest := fun (S : SE) (s3 : Slot) hS => rest_draw (g := hd.load) (many := many) o.load (Int.le_refl _) h1 h2 S (s3 := s3) hS
  have p18 : gPow (.int 10) (.int 18) = some (.int 1000000000000000000) := pow_10 18 (by decide)
  have hS : ∀ ε : En, ε[0]? = some (.io (handD (hd.load.rd many).2)) → (seI 0 (PyData.int (hd.draw many).1) (handD (hd.draw many).2)).rt (.int (hd.load.rd many).1) ε := fun ε z => by
    rw [← Hand.draw_rd] at z ⊢
    exact ⟨rfl, z⟩
  have z := fun s3 => rest (seI 0 (PyData.int (hd.draw many).1) (handD (hd.draw many).2)) s3 hS
  obtain ⟨e0, e1⟩ := o.seed
  unfold m_law_draw
  rw [ev_seq]
  change (sIf _ _ sNext) ⟨restDraw (seI 0 (PyData.int (hd.draw many).1) (handD (hd.draw many).2)), _, _, _⟩ _
  generalize restDraw (seI 0 (PyData.int (hd.draw many).1) (handD (hd.draw many).2)) = N at z ⊢
  by_cases hc : hd.fix = 0 ∧ hd.pos < hd.cells.length
  · have hm : hd.cells.getD hd.pos 0 ∈ hd.cells := getD_mem hc.2
    have q := o.cells _ hm
    have ix : gIx (.list (hd.cells.map .int)) (.int (hd.pos : Int)) = some (.int (hd.cells.getD hd.pos 0)) := ix_lm (by rw [List.getD_eq_getElem?_getD, List.getElem?_eq_getElem hc.2]; rfl)
    have el : hd.load = { hd with pos := hd.pos + 1, seed := (hd.seed * 69621 + hd.cells.getD hd.pos 0 * 48271 + 17) % 2147483629, fix := if 1000000000000000000 ≤ hd.cells.getD hd.pos 0 then hd.cells.getD hd.pos 0 else hd.fix } := if_pos hc
    rw [el] at z
    generalize hd.cells.getD hd.pos 0 = c at *
    have m1 : gMul (.int hd.seed) (.int 69621) = some (.int (hd.seed * 69621)) := op_ii_mul (sm_small (by omega) (by omega)) (sm_small (by decide) (by decide))
    have m2 : gMul (.int c) (.int 48271) = some (.int (c * 48271)) := op_ii_mul (sm_small (by omega) (by omega)) (sm_small (by decide) (by decide))
    have r1 : ∀ a : Int, gMod (.int a) (.int 2147483629) = some (.int (a % 2147483629)) := fun a => op_ii_mod (by decide)
    have z' := z (.ow (.int c))
    by_cases h18 : 1000000000000000000 ≤ c
    · rw [if_pos h18] at z'
      simp [handD, hc.1, hc.2, ix, m1, m2, r1, p18, h18]
      simp [handD] at z'
      exact z'
    · rw [if_neg h18] at z'
      simp [handD, hc.1, hc.2, ix, m1, m2, r1, p18, h18]
      simp [handD, hc.1] at z'
      exact z'
  · have el : hd.load = hd := if_neg hc
    rw [el] at z
    have z' := z .no
    by_cases h0 : hd.fix = 0
    · have h3 : ¬ hd.pos < hd.cells.length := fun t => hc ⟨h0, t⟩
      simp [handD, h0, h3]
      simp [handD, h0] at z'
      exact z'
    · simp [handD, h0]
      simp [handD] at z'
      exact z'
theorem Hand.Ok.mono {h : Hand} {n m : Int} (o : h.Ok n) (l : n ≤ m) : h.Ok m := ⟨o.cells, o.fix, o.seed, o.cnt.1, Int.le_trans o.cnt.2 l⟩
theorem Hand.Ok.any {h : Hand} {n : Int} (o : h.Ok n) {xs : List Int} (hx : 0 < xs.length) : ((h.draw (xs.length : Int)).1).toNat < xs.length ∧ ((h.draw (xs.length : Int)).1) = (((h.draw (xs.length : Int)).1).toNat : Int) := by
  have := (o.draw (show (0 : Int) < (xs.length : Int) by omega)).2
  omega
noncomputable def c_law_any := gOfI (fun a : Hand × List Int => [handD a.1, .list (a.2.map .int)]) (fun a => a.1.Ok 1000000 ∧ 0 < a.2.length ∧ a.2.length ≤ 1000) (fun a => (.int (a.2.getD ((a.1.draw (a.2.length : Int)).1).toNat 0), handD (a.1.draw (a.2.length : Int)).2))
theorem q_law_any {h : Hand} {xs : List Int} (o : h.Ok 1000000) (h1 : 0 < xs.length) (h2 : xs.length ≤ 1000) : c_law_any [handD h, .list (xs.map .int)] = some (.int (xs.getD ((h.draw (xs.length : Int)).1).toNat 0), handD (h.draw (xs.length : Int)).2) := gOfI_eq (f := fun a : Hand × List Int => [handD a.1, .list (a.2.map .int)]) (fun a b h => by
  simp only [List.cons.injEq, PyData.list.injEq, and_true] at h
  have e1 := handD_inj h.1
  have e2 := ints_inj h.2
  obtain ⟨a1, a2⟩ := a
  obtain ⟨b1, b2⟩ := b
  simp only at e1 e2
  subst e1 e2
  rfl) (a := (h, xs)) ⟨o, h1, h2⟩
theorem l_law_any : ∀ dpre d dpost r d', dpre.length = 0 → dpre.length + 1 + dpost.length = 2 → c_law_any (dpre ++ d :: dpost) = some (r, d') → m_law_any c_law_draw (seI 0 r d') (envI dpre d dpost 0) := by
  intro dpre d dpost r d' hl _ h
  obtain ⟨⟨hd, xs⟩, ⟨o, h1, h2⟩, e, q⟩ := gOfI_inv h
  have e0 := List.eq_nil_of_length_eq_zero hl
  subst e0
  simp only [List.nil_append, List.cons.injEq] at e
  obtain ⟨rfl, rfl⟩ := e
  cases q
  simp only at o h1 h2
  have dr := q_law_draw (many := (xs.length : Int)) o (by omega) (by omega)
  obtain ⟨k1, k2⟩ := o.any h1
  have ix : gIx (.list (xs.map .int)) (.int (hd.draw (xs.length : Int)).1) = some (.int (xs.getD ((hd.draw (xs.length : Int)).1).toNat 0)) := by
    rw [k2, Int.toNat_natCast]
    exact ix_lm (by rw [List.getD_eq_getElem?_getD, List.getElem?_eq_getElem k1]; rfl)
  simp [m_law_any, dr, ix]
/-! the script's hand -/
def cellsOf (ns : List Int) : List Int := ns.map fun c => (if c < 0 then -c else c) % 1000000000000000000000000000000000000
def handOf (ns : List Int) : Hand := ⟨cellsOf ns, 0, 0, 211 + 7 * ((cellsOf ns).length : Int), 0⟩
theorem handOf_ok {ns : List Int} (h : ns.length ≤ 63) : (handOf ns).Ok 0 := by
  refine ⟨fun c hc => ?_, ⟨Int.le_refl 0, show (0 : Int) < _ by decide⟩, ?_, ⟨Int.le_refl 0, Int.le_refl 0⟩⟩
  · obtain ⟨x, _, rfl⟩ := List.mem_map.mp hc
    exact ⟨Int.emod_nonneg _ (by decide), Int.emod_lt_of_pos _ (by decide)⟩
  · show 0 ≤ 211 + 7 * ((cellsOf ns).length : Int) ∧ 211 + 7 * ((cellsOf ns).length : Int) < 2147483629
    unfold cellsOf
    rw [List.length_map]
    omega
def scrD (ns : List Int) : D := .dict [(.bool true, .list (ns.map .int))]
noncomputable def c_law_hand := gOf (fun ns : List Int => [scrD ns]) (fun ns => ns.length ≤ 63) (fun ns => handD (handOf ns))
theorem q_law_hand {ns : List Int} (h : ns.length ≤ 63) : c_law_hand [scrD ns] = some (handD (handOf ns)) := gOf_eq (f := fun ns : List Int => [scrD ns]) (fun a b h => by
  simp only [scrD, List.cons.injEq, PyData.dict.injEq, Prod.mk.injEq, PyData.list.injEq, true_and, and_true] at h
  rw [ints_inj h]) (a := ns) h
theorem l_law_hand : ∀ ds d, ds.length = 1 → c_law_hand ds = some d → m_law_hand (seP d) (envP ds 2) := by
  intro ds d _ h
  obtain ⟨ns, hn, rfl, rfl⟩ := gOf_inv h
  have p36 : gPow (.int 10) (.int 36) = some (.int 1000000000000000000000000000000000000) := pow_10 36 (by decide)
  have sl : gSl (scrD ns) none (some 63) = some (.list (ns.map .int)) := by
    show (if frozenL (ns.map PyData.int) = true then some (PyData.list (cutL (ns.map PyData.int) none (some ((63 : Nat) : Int)))) else none) = _
    rw [if_pos fz_ints]
    congr 2
    unfold cutL
    rw [HT.sIx_nat, HT.sIx_none, List.drop_zero, List.take_of_length_le (by simp; omega)]
  have cl : ns.length ≤ cap := capL (by omega)
  have r1 : ∀ a : Int, gMod (.int a) (.int 1000000000000000000000000000000000000) = some (.int (a % 1000000000000000000000000000000000000)) := fun a => op_ii_mod (by decide)
  have m7 : gMul (.int 7) (.int (ns.length : Int)) = some (.int (7 * (ns.length : Int))) := op_ii_mul (sm_small (by decide) (by decide)) (sm_small (by omega) (by omega))
  have ts : toSl (scrD ns) = .bo (scrD ns) := rfl
  simp [m_law_hand, ts, sl, cl]
  rw [lcMap (h := fun c => .int ((if c < 0 then -c else c) % 1000000000000000000000000000000000000))]
  · have e : (ns.map fun c => PyData.int ((if c < 0 then -c else c) % 1000000000000000000000000000000000000)) = (cellsOf ns).map .int := by simp [cellsOf]
    have le : (cellsOf ns).length = ns.length := by simp [cellsOf]
    rw [e]
    simp [m7, le, handD, handOf]
  · intro c _
    simp [p36, r1]
end K97

set_option Elab.async false
set_option linter.all false
set_option maxRecDepth 100000
set_option maxHeartbeats 4000000
/-! K97l: the law's second def: marks. -/
namespace K97
open PySem PySem.Spec PyProof.Rows L2 Pd Gen
noncomputable abbrev A0 : FS := m_law_are_marks_right_0 c_marks_stand c_slipped c_slips_for c_round_of c_wheel_between c_all_meet c_never_many c_same_meet c_teeth_met c_next_stand c_law_draw c_is_marks_stand c_marks_after
noncomputable abbrev A1 : FS := m_law_are_marks_right_1 c_marks_stand c_slipped c_slips_for c_round_of c_wheel_between c_all_meet c_never_many c_same_meet c_teeth_met c_next_stand c_law_draw c_is_marks_stand c_marks_after
noncomputable abbrev A2 : FS := m_law_are_marks_right_2 c_marks_stand c_slipped c_slips_for c_round_of c_wheel_between c_all_meet c_never_many c_same_meet c_teeth_met c_next_stand c_law_draw c_is_marks_stand c_marks_after
noncomputable abbrev A3 : FS := m_law_are_marks_right_3 c_marks_stand c_slipped c_slips_for c_round_of c_wheel_between c_all_meet c_never_many c_same_meet c_teeth_met c_next_stand c_law_draw c_is_marks_stand c_marks_after
noncomputable abbrev A4 : FS := m_law_are_marks_right_4 c_marks_stand c_slipped c_slips_for c_round_of c_wheel_between c_all_meet c_never_many c_same_meet c_teeth_met c_next_stand c_law_draw c_is_marks_stand c_marks_after
noncomputable abbrev A5 : FS := m_law_are_marks_right_5 c_marks_stand c_slipped c_slips_for c_round_of c_wheel_between c_all_meet c_never_many c_same_meet c_teeth_met c_next_stand c_law_draw c_is_marks_stand c_marks_after
noncomputable abbrev A6 : FS := m_law_are_marks_right_6 c_marks_stand c_slipped c_slips_for c_round_of c_wheel_between c_all_meet c_never_many c_same_meet c_teeth_met c_next_stand c_law_draw c_is_marks_stand c_marks_after
noncomputable abbrev A7 : FS := m_law_are_marks_right_7 c_marks_stand c_slipped c_slips_for c_round_of c_wheel_between c_all_meet c_never_many c_same_meet c_teeth_met c_next_stand c_law_draw c_is_marks_stand c_marks_after
noncomputable abbrev A8 : FS := m_law_are_marks_right_8 c_marks_stand c_slipped c_slips_for c_round_of c_wheel_between c_all_meet c_never_many c_same_meet c_teeth_met c_next_stand c_law_draw c_is_marks_stand c_marks_after
noncomputable abbrev A9 : FS := m_law_are_marks_right_9 c_marks_stand c_slipped c_slips_for c_round_of c_wheel_between c_all_meet c_never_many c_same_meet c_teeth_met c_next_stand c_law_draw c_is_marks_stand c_marks_after
noncomputable abbrev A10 : FS := m_law_are_marks_right_10 c_marks_stand c_slipped c_slips_for c_round_of c_wheel_between c_all_meet c_never_many c_same_meet c_teeth_met c_next_stand c_law_draw c_is_marks_stand c_marks_after
noncomputable abbrev A11 : FS := m_law_are_marks_right_11 c_marks_stand c_slipped c_slips_for c_round_of c_wheel_between c_all_meet c_never_many c_same_meet c_teeth_met c_next_stand c_law_draw c_is_marks_stand c_marks_after
noncomputable abbrev A12 : FS := m_law_are_marks_right_12 c_marks_stand c_slipped c_slips_for c_round_of c_wheel_between c_all_meet c_never_many c_same_meet c_teeth_met c_next_stand c_law_draw c_is_marks_stand c_marks_after
noncomputable abbrev A13 : FS := m_law_are_marks_right_13 c_marks_stand c_slipped c_slips_for c_round_of c_wheel_between c_all_meet c_never_many c_same_meet c_teeth_met c_next_stand c_law_draw c_is_marks_stand c_marks_after
noncomputable abbrev A14 : FS := m_law_are_marks_right_14 c_marks_stand c_slipped c_slips_for c_round_of c_wheel_between c_all_meet c_never_many c_same_meet c_teeth_met c_next_stand c_law_draw c_is_marks_stand c_marks_after
noncomputable abbrev A15 : FS := m_law_are_marks_right_15 c_marks_stand c_slipped c_slips_for c_round_of c_wheel_between c_all_meet c_never_many c_same_meet c_teeth_met c_next_stand c_law_draw c_is_marks_stand c_marks_after
noncomputable abbrev A16 : FS := m_law_are_marks_right_16 c_marks_stand c_slipped c_slips_for c_round_of c_wheel_between c_all_meet c_never_many c_same_meet c_teeth_met c_next_stand c_law_draw c_is_marks_stand c_marks_after
noncomputable abbrev A17 : FS := m_law_are_marks_right_17 c_marks_stand c_slipped c_slips_for c_round_of c_wheel_between c_all_meet c_never_many c_same_meet c_teeth_met c_next_stand c_law_draw c_is_marks_stand c_marks_after
noncomputable abbrev A18 : FS := m_law_are_marks_right_18 c_marks_stand c_slipped c_slips_for c_round_of c_wheel_between c_all_meet c_never_many c_same_meet c_teeth_met c_next_stand c_law_draw c_is_marks_stand c_marks_after
noncomputable abbrev A19 : FS := m_law_are_marks_right_19 c_marks_stand c_slipped c_slips_for c_round_of c_wheel_between c_all_meet c_never_many c_same_meet c_teeth_met c_next_stand c_law_draw c_is_marks_stand c_marks_after
noncomputable abbrev A20 : FS := m_law_are_marks_right_20 c_marks_stand c_slipped c_slips_for c_round_of c_wheel_between c_all_meet c_never_many c_same_meet c_teeth_met c_next_stand c_law_draw c_is_marks_stand c_marks_after
noncomputable abbrev A21 : FS := m_law_are_marks_right_21 c_marks_stand c_slipped c_slips_for c_round_of c_wheel_between c_all_meet c_never_many c_same_meet c_teeth_met c_next_stand c_law_draw c_is_marks_stand c_marks_after
noncomputable abbrev B0 : FS := b_law_are_marks_right_0 c_marks_stand c_slipped c_slips_for c_round_of c_wheel_between c_all_meet c_never_many c_same_meet c_teeth_met c_next_stand c_law_draw c_is_marks_stand c_marks_after
noncomputable abbrev B1 : FS := b_law_are_marks_right_1 c_marks_stand c_slipped c_slips_for c_round_of c_wheel_between c_all_meet c_never_many c_same_meet c_teeth_met c_next_stand c_law_draw c_is_marks_stand c_marks_after
noncomputable abbrev B2 : FS := b_law_are_marks_right_2 c_marks_stand c_slipped c_slips_for c_round_of c_wheel_between c_all_meet c_never_many c_same_meet c_teeth_met c_next_stand c_law_draw c_is_marks_stand c_marks_after
noncomputable abbrev B3 : FS := b_law_are_marks_right_3 c_marks_stand c_slipped c_slips_for c_round_of c_wheel_between c_all_meet c_never_many c_same_meet c_teeth_met c_next_stand c_law_draw c_is_marks_stand c_marks_after
noncomputable abbrev B4 : FS := b_law_are_marks_right_4 c_marks_stand c_slipped c_slips_for c_round_of c_wheel_between c_all_meet c_never_many c_same_meet c_teeth_met c_next_stand c_law_draw c_is_marks_stand c_marks_after
noncomputable abbrev B5 : FS := b_law_are_marks_right_5 c_marks_stand c_slipped c_slips_for c_round_of c_wheel_between c_all_meet c_never_many c_same_meet c_teeth_met c_next_stand c_law_draw c_is_marks_stand c_marks_after
noncomputable abbrev B6 : FS := b_law_are_marks_right_6 c_marks_stand c_slipped c_slips_for c_round_of c_wheel_between c_all_meet c_never_many c_same_meet c_teeth_met c_next_stand c_law_draw c_is_marks_stand c_marks_after
noncomputable abbrev B7 : FS := b_law_are_marks_right_7 c_marks_stand c_slipped c_slips_for c_round_of c_wheel_between c_all_meet c_never_many c_same_meet c_teeth_met c_next_stand c_law_draw c_is_marks_stand c_marks_after
noncomputable abbrev B8 : FS := b_law_are_marks_right_8 c_marks_stand c_slipped c_slips_for c_round_of c_wheel_between c_all_meet c_never_many c_same_meet c_teeth_met c_next_stand c_law_draw c_is_marks_stand c_marks_after
noncomputable abbrev B9 : FS := b_law_are_marks_right_9 c_marks_stand c_slipped c_slips_for c_round_of c_wheel_between c_all_meet c_never_many c_same_meet c_teeth_met c_next_stand c_law_draw c_is_marks_stand c_marks_after
noncomputable abbrev B10 : FS := b_law_are_marks_right_10 c_marks_stand c_slipped c_slips_for c_round_of c_wheel_between c_all_meet c_never_many c_same_meet c_teeth_met c_next_stand c_law_draw c_is_marks_stand c_marks_after
noncomputable abbrev B11 : FS := b_law_are_marks_right_11 c_marks_stand c_slipped c_slips_for c_round_of c_wheel_between c_all_meet c_never_many c_same_meet c_teeth_met c_next_stand c_law_draw c_is_marks_stand c_marks_after
noncomputable abbrev B12 : FS := b_law_are_marks_right_12 c_marks_stand c_slipped c_slips_for c_round_of c_wheel_between c_all_meet c_never_many c_same_meet c_teeth_met c_next_stand c_law_draw c_is_marks_stand c_marks_after
noncomputable abbrev B13 : FS := b_law_are_marks_right_13 c_marks_stand c_slipped c_slips_for c_round_of c_wheel_between c_all_meet c_never_many c_same_meet c_teeth_met c_next_stand c_law_draw c_is_marks_stand c_marks_after
noncomputable abbrev B14 : FS := b_law_are_marks_right_14 c_marks_stand c_slipped c_slips_for c_round_of c_wheel_between c_all_meet c_never_many c_same_meet c_teeth_met c_next_stand c_law_draw c_is_marks_stand c_marks_after
noncomputable abbrev B15 : FS := b_law_are_marks_right_15 c_marks_stand c_slipped c_slips_for c_round_of c_wheel_between c_all_meet c_never_many c_same_meet c_teeth_met c_next_stand c_law_draw c_is_marks_stand c_marks_after
noncomputable abbrev B16 : FS := b_law_are_marks_right_16 c_marks_stand c_slipped c_slips_for c_round_of c_wheel_between c_all_meet c_never_many c_same_meet c_teeth_met c_next_stand c_law_draw c_is_marks_stand c_marks_after
noncomputable abbrev B17 : FS := b_law_are_marks_right_17 c_marks_stand c_slipped c_slips_for c_round_of c_wheel_between c_all_meet c_never_many c_same_meet c_teeth_met c_next_stand c_law_draw c_is_marks_stand c_marks_after
noncomputable abbrev B18 : FS := b_law_are_marks_right_18 c_marks_stand c_slipped c_slips_for c_round_of c_wheel_between c_all_meet c_never_many c_same_meet c_teeth_met c_next_stand c_law_draw c_is_marks_stand c_marks_after
noncomputable abbrev B19 : FS := b_law_are_marks_right_19 c_marks_stand c_slipped c_slips_for c_round_of c_wheel_between c_all_meet c_never_many c_same_meet c_teeth_met c_next_stand c_law_draw c_is_marks_stand c_marks_after
noncomputable abbrev B20 : FS := b_law_are_marks_right_20 c_marks_stand c_slipped c_slips_for c_round_of c_wheel_between c_all_meet c_never_many c_same_meet c_teeth_met c_next_stand c_law_draw c_is_marks_stand c_marks_after
noncomputable abbrev B21 : FS := b_law_are_marks_right_21 c_marks_stand c_slipped c_slips_for c_round_of c_wheel_between c_all_meet c_never_many c_same_meet c_teeth_met c_next_stand c_law_draw c_is_marks_stand c_marks_after
theorem lend_at {T : En} {j : Nat} {d : D} (h : T[j]? = some (.ow d)) (hf : frozen d = true) : mLend j T = some (d, T) := by
  unfold mLend
  rw [h]
  simp only [hf, if_true]
  congr 2
  refine List.ext_getElem? fun i => ?_
  by_cases hi : j = i
  · subst hi
    rw [List.getElem?_set_self (List.getElem?_eq_some_iff.mp h).1, h]
  · rw [List.getElem?_set_ne hi]
theorem set_same {T : En} {j : Nat} {s : Pd.Slot} (h : T[j]? = some s) : T.set j s = T := by
  refine List.ext_getElem? fun i => ?_
  by_cases hi : j = i
  · subst hi
    rw [List.getElem?_set_self (List.getElem?_eq_some_iff.mp h).1, h]
  · rw [List.getElem?_set_ne hi]
/-- a draw for each -/
def drawAll (h : Hand) : List Int → List Int × Hand
  | [] => ([], h)
  | b :: bs => ((h.draw b).1 :: (drawAll (h.draw b).2 bs).1, (drawAll (h.draw b).2 bs).2)
theorem drawAll_spec : ∀ (bs : List Int) (h : Hand) (n : Int), h.Ok n → (∀ b ∈ bs, 0 < b) → (drawAll h bs).1.length = bs.length ∧ (∀ p ∈ (drawAll h bs).1.zip bs, 0 ≤ p.1 ∧ p.1 < p.2) ∧ (drawAll h bs).2.Ok (n + (bs.length : Int)) := by
  intro bs
  induction bs with
  | nil => intro h n o _; exact ⟨rfl, fun p hp => (nomatch hp), by simpa [drawAll] using o⟩
  | cons b bs ih =>
    intro h n o hb
    have q := hb b List.mem_cons_self
    obtain ⟨o2, v0, v1⟩ := o.draw (many := b) q
    obtain ⟨hl, hz, o'⟩ := ih (h.draw b).2 (n + 1) o2 fun x hx => hb x (List.mem_cons_of_mem _ hx)
    refine ⟨by simp [drawAll, hl], fun p hp => ?_, by
      have e3 : n + ((b :: bs).length : Int) = n + 1 + (bs.length : Int) := by simp; omega
      rw [e3]
      exact o'⟩
    simp only [drawAll, List.zip_cons_cons] at hp
    rcases List.mem_cons.mp hp with rfl | hp
    · exact ⟨v0, v1⟩
    · exact hz p hp
theorem comp_draw {T : En} {j : Nat} (hT : T[j]? = some .no) : ∀ (bs : List Int) (h : Hand) (n : Int), h.Ok n → n + (bs.length : Int) ≤ 1000000 → (∀ b ∈ bs, 0 < b ∧ b ≤ 400) →
    compM [j + 1] (bbName (j + 1)) mTrue (mIo 2 0 c_law_draw (mhHole (maCons (mLend (j + 1)) maNil))) (bs.map .int) (.io (handD h) :: T) = some ((drawAll h bs).1.map .int, .io (handD (drawAll h bs).2) :: T) := by
  intro bs
  induction bs with
  | nil => intro h n o _ _; rfl
  | cons b bs ih =>
    intro h n o hn hb
    have q := hb b List.mem_cons_self
    simp only [List.length_cons] at hn
    obtain ⟨o2, v0, v1⟩ := o.draw (many := b) q.1
    have e := ih (h.draw b).2 (n + 1) o2 (by omega) fun x hx => hb x (List.mem_cons_of_mem _ hx)
    have dr := q_law_draw (h := h) (many := b) (o.mono (by omega)) q.1 (by omega)
    have hj : (T.set j (.ow (.int b)))[j]? = some (.ow (.int b)) := List.getElem?_set_self (List.getElem?_eq_some_iff.mp hT).1
    have ln := lend_at hj rfl
    rw [List.map_cons, compM_cons]
    simp only [ev_bbname, List.getElem?_cons_succ, hT, ev_io3, if_true, List.set_cons_succ, ts_int, Option.bind_some, ev_mtrue, ev_mio, ev_mineAt0, ev_mine3, ev_mhhole, ev_macons, ev_lendS, ln, Option.map_some, ev_manil, List.length_nil, List.length_cons, List.nil_append, dr, ev_setm1, List.length_set, ev_wipeS, ev_wipe0, List.set_set, set_same hT, e]
    simp [drawAll]
theorem a0 {S : SE} {bs : List Int} {h : Hand} {n w : Int} (hb : Belt bs) (o : h.Ok n) (hn : n ≤ 900000)
    (hS : S.nx [.io (handD (drawAll h bs).2), .ow (tI bs), .ow (.int w), .ow (tI (drawAll h bs).1), .no, .no, .no, .no, .no, .no, .no, .no, .no, .no, .no, .no, .no, .no, .no, .no, .no]) :
    A0 S [.io (handD h), .ow (tI bs), .ow (.int w), .no, .no, .no, .no, .no, .no, .no, .no, .no, .no, .no, .no, .no, .no, .no, .no, .no, .no] := by
  have hl6 := hb.len
  have e := comp_draw (T := [.ow (tI bs), .ow (.int w), .no, .no, .no, .no, .no, .no, .no, .no, .no, .no, .no, .no, .no, .no, .no, .no, .no, .no]) (j := 7) rfl bs h n o (by omega) (fun b h => ⟨hb.pos b h, (hb.lim b h).2⟩)
  have c1 : bs.length ≤ cap := capL (by omega)
  have tp := gl_tupL (fz_ints (xs := (drawAll h bs).1))
  generalize drawAll h bs = dd at *
  simp [A0, m_law_are_marks_right_0, wipeOk, wOk, c1]
  simp only [tI] at e
  rw [e]
  simp [backE, toBo, tp]
  exact hS
theorem a1 {S : SE} {bs ms : List Int} {h : Hand} {w : Int} (hb : Belt bs) (hm : Marks bs ms)
    (hS : S.nx [.io (handD h), .ow (tI bs), .ow (.int w), .ow (tI ms), .ow (standD bs ms), .ow (.list []), .no, .no, .no, .no, .no, .no, .no, .no, .no, .no, .no, .no, .no, .no, .no]) :
    A1 S [.io (handD h), .ow (tI bs), .ow (.int w), .ow (tI ms), .no, .no, .no, .no, .no, .no, .no, .no, .no, .no, .no, .no, .no, .no, .no, .no, .no] := by
  simp [A1, m_law_are_marks_right_1, q_marks_stand hb hm]
  exact hS
def foundL (bs ms : List Int) (is : List Nat) : List Int := (is.filter fun i : Nat => decide (after bs (i : Int) = ms)).map fun i : Nat => (i : Int)
theorem fm_found {S : SE} {bs ms : List Int} {h : Hand} {w : Int} {told : D} (hb : Belt bs) : ∀ (is : List Nat) (found : List Int) (s6 : Pd.Slot), notIo (some s6) = true → found.length + is.length ≤ 10000 →
    (∀ s6, notIo (some s6) = true → S.nx [.io (handD h), .ow (tI bs), .ow (.int w), .ow (tI ms), .ow told, .ow (.list ((found ++ foundL bs ms is).map .int)), s6, .no, .no, .no, .no, .no, .no, .no, .no, .no, .no, .no, .no, .no, .no]) →
    forM (bbName 6) (sIf (mT (tst (e2 cmpEq (eCall gTupOf (aCons (eLc [8] (iSelf (eVar 1)) (bName 8) bTrue (e2 gMod (eCall gInt (aCons (eVar 6) aNil)) (eVar 8))) aNil)) (eVar 3)))) (sExpr (mApp 5 (mVar 6))) sNext) (is.map fun i : Nat => PyData.int (i : Int)) S [.io (handD h), .ow (tI bs), .ow (.int w), .ow (tI ms), .ow told, .ow (.list (found.map .int)), s6, .no, .no, .no, .no, .no, .no, .no, .no, .no, .no, .no, .no, .no, .no] := by
  have hl6 := hb.len
  have c1 : bs.length ≤ cap := capL (by omega)
  intro is
  induction is with
  | nil =>
    intro found s6 h6 _ hS
    have := hS s6 h6
    simp [foundL] at this
    simpa using this
  | cons i is ih =>
    intro found s6 h6 hl hS
    simp only [List.length_cons] at hl
    have lc : compL (bName 8) bTrue (e2 gMod (eCall gInt (aCons (eVar 6) aNil)) (eVar 8)) [.io (handD h), .ow (tI bs), .ow (.int w), .ow (tI ms), .ow told, .ow (.list (found.map .int)), .ow (.int (i : Int)), .no, .no, .no, .no, .no, .no, .no, .no, .no, .no, .no, .no, .no, .no] (bs.map .int) = some ((after bs (i : Int)).map .int) := by
      rw [lcMap (h := fun b => .int ((i : Int) % b))]
      · simp [after]
      · intro b hb'
        simp [op_ii_mod (hb.pos b hb')]
    have tp := gl_tupL (fz_ints (xs := after bs (i : Int)))
    have cq : cmpEq (.tuple ((after bs (i : Int)).map .int)) (.tuple (ms.map .int)) = some (.bool (decide (after bs (i : Int) = ms))) := cq_tt
    have ev : compL (bName 8) bTrue (e2 gMod (eCall gInt (aCons (eVar 6) aNil)) (eVar 8)) [.io (handD h), .ow (.tuple (bs.map .int)), .ow (.int w), .ow (.tuple (ms.map .int)), .ow told, .ow (.list (found.map .int)), .ow (.int (i : Int)), .no, .no, .no, .no, .no, .no, .no, .no, .no, .no, .no, .no, .no, .no] (bs.map .int) = some ((after bs (i : Int)).map .int) := lc
    rw [List.map_cons, ev_fcons]
    by_cases hh : after bs (i : Int) = ms
    · have ga : gApp (.list (found.map .int)) (.int (i : Int)) = some (.list ((found ++ [(i : Int)]).map .int)) := by
        refine (if_pos ?_).trans (by simp)
        exact Nat.le_trans (show (found.map PyData.int).length ≤ 10000 by simp; omega) (by decide)
      have ih2 := ih (found ++ [(i : Int)]) (.ow (.int (i : Int))) rfl (by simp; omega) (by
        intro s6 h6
        have := hS s6 h6
        have e : foundL bs ms (i :: is) = (i : Int) :: foundL bs ms is := by simp [foundL, hh]
        rw [e] at this
        simpa using this)
      simp [h6, c1]
      rw [ev]
      simp only [Option.map_some, Option.bind_some, tp, cq, ev_toB, decide_eq_true hh, if_true, ev_os]
      simp [isLst, ga]
      simp at ih2
      exact ih2
    · have ih2 := ih found (.ow (.int (i : Int))) rfl (by omega) (by
        intro s6 h6
        have := hS s6 h6
        have e : foundL bs ms (i :: is) = foundL bs ms is := by simp [foundL, hh]
        rw [e] at this
        exact this)
      simp [h6, c1]
      rw [ev]
      simp only [Option.map_some, Option.bind_some, tp, cq, ev_toB, decide_eq_false hh, Bool.false_eq_true, if_false, ev_os]
      simp
      exact ih2
theorem eqvAll_nil {xs : List Int} : PyData.eqvAll (xs.map .int) [] = decide (xs = []) := eqvAll_ints xs []
theorem okD_lints {xs : List Int} {n : Nat} : okD (n + 2) (.list (xs.map .int)) := okD_list fun x hx => by
  obtain ⟨k, _, rfl⟩ := List.mem_map.mp hx
  exact okD_int
@[simp] theorem cn_ll {xs ys : List Int} : cmpNe (.list (xs.map .int)) (.list (ys.map .int)) = some (.bool (!decide (xs = ys))) := by
  rw [cn_of (okD_mono (okD_lints (n := 0)) (by decide)) (okD_mono (okD_lints (n := 0)) (by decide))]
  show some (PyData.bool (!PyData.eqvAll (xs.map .int) (ys.map .int))) = _
  rw [eqvAll_ints]
@[simp] theorem cn_l0 {xs : List Int} : cmpNe (.list (xs.map .int)) (.list []) = some (.bool (!decide (xs = []))) := cn_ll (ys := [])
theorem stand_none {bs ms : List Int} (h : firstBad bs ms = none) : standD bs ms = .tuple [.str "moved", .int (crtV bs ms)] := by simp [standD, h]
theorem stand_some {bs ms : List Int} {i j : Nat} (h : firstBad bs ms = some (i, j)) : standD bs ms = .tuple [.str "never", .tuple [.int (i : Int), .int (j : Int)]] := by simp [standD, h]
theorem after_meets {bs ms : List Int} (hl : ms.length = bs.length) {x : Int} : after bs x = ms ↔ Meets x (ms.zip bs) := by
  constructor
  · intro e p hp
    obtain ⟨i, hi, rfl⟩ := zip_mem_at hp
    have : ms.getD i 0 = x % bs.getD i 0 := by
      rw [← e]
      unfold after
      simp only [List.getD_eq_getElem?_getD, List.getElem?_map, List.getElem?_eq_getElem hi]
      rfl
    exact this.symm
  · intro h
    refine List.ext_getElem? fun i => ?_
    by_cases hi : i < bs.length
    · have q := h _ (mem_zip_at hl hi)
      unfold after
      rw [List.getElem?_map, List.getElem?_eq_getElem hi, List.getElem?_eq_getElem (show i < ms.length by omega)]
      simp only [List.getD_eq_getElem?_getD, List.getElem?_eq_getElem hi, List.getElem?_eq_getElem (show i < ms.length by omega)] at q
      simpa using q
    · rw [List.getElem?_eq_none (by simp [after]; omega), List.getElem?_eq_none (by omega)]
def foundAll (bs ms : List Int) : List Int := foundL bs ms (List.range (min (lcmL bs) 3000).toNat)
theorem a2 {S : SE} {bs ms : List Int} {h : Hand} (hb : Belt bs)
    (hS : ∀ s6, notIo (some s6) = true → S.nx [.io (handD h), .ow (tI bs), .ow (.int (lcmL bs)), .ow (tI ms), .ow (standD bs ms), .ow (.list ((foundAll bs ms).map .int)), s6, .no, .no, .no, .no, .no, .no, .no, .no, .no, .no, .no, .no, .no, .no]) :
    A2 S [.io (handD h), .ow (tI bs), .ow (.int (lcmL bs)), .ow (tI ms), .ow (standD bs ms), .ow (.list []), .no, .no, .no, .no, .no, .no, .no, .no, .no, .no, .no, .no, .no, .no, .no] := by
  have p := hb.lcm_pos
  have e : (min (lcmL bs) 3000) = (((min (lcmL bs) 3000).toNat : Nat) : Int) := by omega
  have rg := rg1_nat (n := (min (lcmL bs) 3000).toNat) (by omega)
  rw [← e] at rg
  simp [A2, m_law_are_marks_right_2, rg]
  exact fm_found hb (List.range (min (lcmL bs) 3000).toNat) [] .no rfl (by simp; omega) hS
theorem a3 {S : SE} {bs ms : List Int} {h : Hand} {s6 : Pd.Slot} (hb : Belt bs) (hm : Marks bs ms)
    (hS : S.nx [.io (handD h), .ow (tI bs), .ow (.int (lcmL bs)), .ow (tI ms), .ow (standD bs ms), .ow (.list ((foundAll bs ms).map .int)), s6, .no, .no, .no, .no, .no, .no, .no, .no, .no, .no, .no, .no, .no, .no]) :
    A3 S [.io (handD h), .ow (tI bs), .ow (.int (lcmL bs)), .ow (tI ms), .ow (standD bs ms), .ow (.list ((foundAll bs ms).map .int)), s6, .no, .no, .no, .no, .no, .no, .no, .no, .no, .no, .no, .no, .no, .no] := by
  have key : lcmL bs ≤ 3000 → (firstBad bs ms = none ↔ foundAll bs ms ≠ []) := by
    intro hw
    constructor
    · intro q
      obtain ⟨h0, h1, h2⟩ := crtV_spec hb hm q
      have e := (after_meets hm.len).mpr h2
      intro z
      have hmem : crtV bs ms ∈ foundAll bs ms := by
        unfold foundAll foundL
        rw [List.mem_map]
        refine ⟨(crtV bs ms).toNat, List.mem_filter.mpr ⟨List.mem_range.mpr (by omega), ?_⟩, by omega⟩
        rw [decide_eq_true_eq, Int.toNat_of_nonneg h0]
        exact e
      rw [z] at hmem
      cases hmem
    · intro hne
      cases q : firstBad bs ms with
      | none => rfl
      | some p =>
        obtain ⟨i, j⟩ := p
        obtain ⟨b1, b2, b3⟩ := firstBad_some q
        refine absurd ?_ hne
        unfold foundAll foundL
        rw [List.map_eq_nil_iff, List.filter_eq_nil_iff]
        intro x _ hx
        rw [decide_eq_true_eq] at hx
        exact no_meets hb hm.len (show i < bs.length by omega) b2 b3 _ ((after_meets hm.len).mp hx)
  cases q : firstBad bs ms with
  | none =>
    rw [stand_none q] at hS ⊢
    by_cases hw : lcmL bs ≤ 3000
    · have := (key hw).mp q
      simp [A3, m_law_are_marks_right_3, hw, this]
      exact hS
    · simp [A3, m_law_are_marks_right_3, hw]
      exact hS
  | some p =>
    obtain ⟨i, j⟩ := p
    rw [stand_some q] at hS ⊢
    by_cases hw : lcmL bs ≤ 3000
    · have : foundAll bs ms = [] := by
        by_cases z : foundAll bs ms = []
        · exact z
        · have := (key hw).mpr z
          rw [q] at this
          cases this
      simp [A3, m_law_are_marks_right_3, hw, this, word_ne]
      rw [this] at hS
      exact hS
    · simp [A3, m_law_are_marks_right_3, hw]
      exact hS
theorem is_not {b c : Bool} : gIsNot (.bool b) (.bool c) = some (.bool (!decide (b = c))) := rfl
theorem a4 {S : SE} {bs ms : List Int} {h : Hand} {s5 s6 : Pd.Slot} (hb : Belt bs) (hm : Marks bs ms)
    (hS : S.nx [.io (handD h), .ow (tI bs), .ow (.int (lcmL bs)), .ow (tI ms), .ow (standD bs ms), s5, s6, .no, .no, .no, .no, .no, .no, .no, .no, .no, .no, .no, .no, .no, .no]) :
    A4 S [.io (handD h), .ow (tI bs), .ow (.int (lcmL bs)), .ow (tI ms), .ow (standD bs ms), s5, s6, .no, .no, .no, .no, .no, .no, .no, .no, .no, .no, .no, .no, .no, .no] := by
  have qm := q_is_marks_stand hb hm
  have hL := hb.lcm_le
  cases q : firstBad bs ms with
  | none =>
    obtain ⟨h0, h1, h2⟩ := crtV_spec hb hm q
    have e := (after_meets hm.len).mpr h2
    have qa := q_marks_after hb h0 (show crtV bs ms ≤ 100000000000000000000 by omega)
    rw [e] at qa
    rw [stand_none q] at hS qm ⊢
    simp [A4, m_law_are_marks_right_4, qa, qm, is_not]
    exact hS
  | some p =>
    obtain ⟨i, j⟩ := p
    rw [stand_some q] at hS qm ⊢
    simp [A4, m_law_are_marks_right_4, qm, is_not, word_ne]
    exact hS
theorem a5 {S : SE} {A0' A1' A2' A3' A4' s5 s6 : Pd.Slot} (hS : S.nx [A0', A1', A2', A3', A4', s5, s6, .ow (.int 1), .no, .no, .no, .no, .no, .no, .no, .no, .no, .no, .no, .no, .no]) : A5 S [A0', A1', A2', A3', A4', s5, s6, .no, .no, .no, .no, .no, .no, .no, .no, .no, .no, .no, .no, .no, .no] := by
  simp [A5, m_law_are_marks_right_5]
  exact hS
theorem fm_every {S : SE} {A0' A1' A2' A3' A4' s5 s6 : Pd.Slot} {fin : Int} (hS : ∀ s8, notIo (some s8) = true → S.nx [A0', A1', A2', A3', A4', s5, s6, .ow (.int fin), s8, .no, .no, .no, .no, .no, .no, .no, .no, .no, .no, .no, .no]) : ∀ (bs : List Int) (f : Int) (s8 : Pd.Slot) (k : Nat), notIo (some s8) = true → 0 < f → f ≤ 400 ^ k → bs.length + k ≤ 6 → (∀ b ∈ bs, 0 < b ∧ b ≤ 400) → prodF f bs = fin →
    forM (bbName 8) (sSet 7 (mP (e2 gMul (eVar 7) (eVar 8)))) (bs.map PyData.int) S [A0', A1', A2', A3', A4', s5, s6, .ow (.int f), s8, .no, .no, .no, .no, .no, .no, .no, .no, .no, .no, .no, .no] := by
  intro bs
  induction bs with
  | nil =>
    intro f s8 k h8 _ _ _ _ e
    have e : f = fin := e
    subst e
    exact hS s8 h8
  | cons b bs ih =>
    intro f s8 k h2 h0 h1 hl hb h
    have q := hb b List.mem_cons_self
    have hk : f * b ≤ 400 ^ (k + 1) := by
      rw [Int.pow_succ]
      exact Int.mul_le_mul h1 q.2 (by omega) (Int.le_of_lt (Int.pow_pos (by decide)))
    have big := p400 (show k ≤ 6 by simp at hl; omega)
    have s1 : sm f = true := sm_small (by omega) (by omega)
    have s3 : sm b = true := sm_small (by omega) (by omega)
    have ih2 := ih (f * b) (.ow (.int b)) (k + 1) rfl (Int.mul_pos h0 q.1) hk (by simp at hl; omega) (fun x hx => hb x (List.mem_cons_of_mem _ hx)) h
    rw [List.map_cons, ev_fcons]
    simp [h2, op_ii_mul s1 s3]
    exact ih2
theorem a6 {S : SE} {bs : List Int} {A0' A2' A3' A4' s5 s6 : Pd.Slot} (hb : Belt bs) (hS : ∀ s8, notIo (some s8) = true → S.nx [A0', .ow (tI bs), A2', A3', A4', s5, s6, .ow (.int (prodF 1 bs)), s8, .no, .no, .no, .no, .no, .no, .no, .no, .no, .no, .no, .no]) : A6 S [A0', .ow (tI bs), A2', A3', A4', s5, s6, .ow (.int 1), .no, .no, .no, .no, .no, .no, .no, .no, .no, .no, .no, .no, .no] := by
  simp [A6, m_law_are_marks_right_6]
  exact fm_every hS bs 1 .no 0 rfl (by decide) (by decide) (by have := hb.len; omega) (fun b h => ⟨hb.pos b h, (hb.lim b h).2⟩) rfl
theorem a7 {S : SE} {bs : List Int} {A0' A3' A4' s5 s6 s8 : Pd.Slot} (hb : Belt bs) (hS : S.nx [A0', .ow (tI bs), .ow (.int (lcmL bs)), A3', A4', s5, s6, .ow (.int (prodF 1 bs)), s8, .no, .no, .no, .no, .no, .no, .no, .no, .no, .no, .no, .no]) : A7 S [A0', .ow (tI bs), .ow (.int (lcmL bs)), A3', A4', s5, s6, .ow (.int (prodF 1 bs)), s8, .no, .no, .no, .no, .no, .no, .no, .no, .no, .no, .no, .no] := by
  simp [A7, m_law_are_marks_right_7, q_never_many hb]
  exact hS
theorem a8 {S : SE} {h : Hand} {n : Int} {A1' A2' A3' A4' s5 s6 s7 s8 : Pd.Slot} (o : h.Ok n) (hn : n ≤ 900000) (hS : S.nx [.io (handD (h.draw 1000000).2), A1', A2', A3', A4', s5, s6, s7, s8, .ow (.int (h.draw 1000000).1), .no, .no, .no, .no, .no, .no, .no, .no, .no, .no, .no]) : A8 S [.io (handD h), A1', A2', A3', A4', s5, s6, s7, s8, .no, .no, .no, .no, .no, .no, .no, .no, .no, .no, .no, .no] := by
  have p6 : gPow (.int 10) (.int 6) = some (.int 1000000) := pow_10 6 (by decide)
  have dr := q_law_draw (h := h) (many := 1000000) (o.mono (by omega)) (by decide) (by decide)
  simp [A8, m_law_are_marks_right_8, p6, dr]
  exact hS
noncomputable def laterD (bs ms : List Int) (m : Int) : D := if firstBad bs ms = none then .int (nextV bs ms m) else .none
theorem frz_later {bs ms : List Int} {m : Int} : frozen (laterD bs ms m) = true := by unfold laterD; split <;> rfl
theorem a9 {S : SE} {bs ms : List Int} {m : Int} {A0' A2' A4' s5 s6 s7 s8 : Pd.Slot} (hb : Belt bs) (hm : Marks bs ms) (h0 : 0 ≤ m) (h1 : m < 1000000) (hS : S.nx [A0', .ow (tI bs), A2', .ow (tI ms), A4', s5, s6, s7, s8, .ow (.int m), .ow (laterD bs ms m), .no, .no, .no, .no, .no, .no, .no, .no, .no, .no]) : A9 S [A0', .ow (tI bs), A2', .ow (tI ms), A4', s5, s6, s7, s8, .ow (.int m), .no, .no, .no, .no, .no, .no, .no, .no, .no, .no, .no] := by
  have q := q_next_stand hb hm h0 (show m ≤ 100000000000000000000 by omega)
  have q' : c_next_stand [tI bs, tI ms, .int m] = some (laterD bs ms m) := q
  simp [A9, m_law_are_marks_right_9, q']
  exact hS
theorem is_none_int {i : Int} : gIs (.int i) .none = some (.bool false) := rfl
theorem is_none_none : gIs .none .none = some (.bool true) := rfl
theorem isn_none_int {i : Int} : gIsNot (.int i) .none = some (.bool true) := rfl
theorem isn_none_none : gIsNot .none .none = some (.bool false) := rfl
theorem a10 {S : SE} {bs ms : List Int} {m : Int} {A0' A1' A2' A3' s5 s6 s7 s8 s9 : Pd.Slot} (hS : S.nx [A0', A1', A2', A3', .ow (standD bs ms), s5, s6, s7, s8, s9, .ow (laterD bs ms m), .no, .no, .no, .no, .no, .no, .no, .no, .no, .no]) : A10 S [A0', A1', A2', A3', .ow (standD bs ms), s5, s6, s7, s8, s9, .ow (laterD bs ms m), .no, .no, .no, .no, .no, .no, .no, .no, .no, .no] := by
  cases q : firstBad bs ms with
  | none =>
    have e : laterD bs ms m = .int (nextV bs ms m) := if_pos q
    rw [stand_none q, e] at hS ⊢
    simp [A10, m_law_are_marks_right_10, is_none_int, word_ne']
    exact hS
  | some p =>
    obtain ⟨i, j⟩ := p
    have e : laterD bs ms m = .none := if_neg (by rw [q]; intro z; cases z)
    rw [stand_some q, e] at hS ⊢
    simp [A10, m_law_are_marks_right_10, is_none_none]
    exact hS
theorem next_facts {bs ms : List Int} {m : Int} (hb : Belt bs) (h0 : 0 ≤ crtV bs ms) (h1 : crtV bs ms < lcmL bs) (hm : 0 ≤ m) : m < nextV bs ms m ∧ (nextV bs ms m - crtV bs ms) % lcmL bs = 0 ∧ nextV bs ms m - m ≤ lcmL bs := by
  have hL := hb.lcm_pos
  unfold nextV
  generalize lcmL bs = L at *
  generalize crtV bs ms = c at *
  split
  · refine ⟨by omega, by simp, by omega⟩
  · have := next_gt (c := m - c) hL
    have h2 := Int.ediv_mul_le (m - c) (show L ≠ 0 by omega)
    refine ⟨by omega, ?_, ?_⟩
    · have e : c + ((m - c) / L + 1) * L - c = ((m - c) / L + 1) * L := by omega
      rw [e]
      exact Int.mul_emod_left _ _
    · rw [Int.add_mul] at this ⊢
      omega
theorem a11 {S : SE} {bs ms : List Int} {m : Int} {A0' A1' A3' s5 s6 s7 s8 : Pd.Slot} (hb : Belt bs) (hm : Marks bs ms) (h0 : 0 ≤ m) (h1 : m < 1000000) (hS : S.nx [A0', A1', .ow (.int (lcmL bs)), A3', .ow (standD bs ms), s5, s6, s7, s8, .ow (.int m), .ow (laterD bs ms m), .no, .no, .no, .no, .no, .no, .no, .no, .no, .no]) : A11 S [A0', A1', .ow (.int (lcmL bs)), A3', .ow (standD bs ms), s5, s6, s7, s8, .ow (.int m), .ow (laterD bs ms m), .no, .no, .no, .no, .no, .no, .no, .no, .no, .no] := by
  cases q : firstBad bs ms with
  | none =>
    obtain ⟨c0, c1, _⟩ := crtV_spec hb hm q
    obtain ⟨f1, f2, f3⟩ := next_facts hb c0 c1 h0
    have e : laterD bs ms m = .int (nextV bs ms m) := if_pos q
    rw [stand_none q, e] at hS ⊢
    simp [A11, m_law_are_marks_right_11, isn_none_int, op_ii_mod hb.lcm_pos, f2, show ¬ nextV bs ms m ≤ m by omega, show ¬ lcmL bs < nextV bs ms m - m by omega]
    exact hS
  | some p =>
    obtain ⟨i, j⟩ := p
    have e : laterD bs ms m = .none := if_neg (by rw [q]; intro z; cases z)
    rw [stand_some q, e] at hS ⊢
    simp [A11, m_law_are_marks_right_11, isn_none_none]
    exact hS
end K97

set_option Elab.async false
set_option linter.all false
set_option maxRecDepth 100000
set_option maxHeartbeats 4000000
/-! K97p: two wheels of a belt. -/
namespace K97
open PySem PySem.Spec PyProof.Rows L2 Pd Gen
structure Two (b1 b2 m1 m2 : Int) : Prop where
  h1 : 2 ≤ b1 ∧ b1 ≤ 400
  h2 : 2 ≤ b2 ∧ b2 ≤ 400
  k1 : 0 ≤ m1 ∧ m1 < b1
  k2 : 0 ≤ m2 ∧ m2 < b2
variable {b1 b2 m1 m2 : Int}
theorem Two.belt (t : Two b1 b2 m1 m2) : Belt [b1, b2] := ⟨by simp, by simp, fun b hb => by
  simp only [List.mem_cons, List.not_mem_nil, or_false] at hb
  rcases hb with rfl | rfl
  · exact t.h1
  · exact t.h2⟩
theorem Two.marks (t : Two b1 b2 m1 m2) : Marks [b1, b2] [m1, m2] := ⟨rfl, fun p hp => by
  simp only [List.zip_cons_cons, List.zip_nil_left, List.mem_cons, List.not_mem_nil, or_false] at hp
  rcases hp with rfl | rfl
  · exact t.k1
  · exact t.k2⟩
theorem Two.bad (t : Two b1 b2 m1 m2) : firstBad [b1, b2] [m1, m2] = if 0 < (m1 - m2) % (Int.gcd b1 b2 : Int) then some (0, 1) else none := by
  have e : firstBad [b1, b2] [m1, m2] = (if badP [b1, b2] [m1, m2] 0 1 = true then some (0, 1) else none) := by
    show ((List.range 2).findSome? fun i => ((jsL 2 i).find? (badP [b1, b2] [m1, m2] i)).map fun j => (i, j)) = _
    have r : List.range 2 = [0, 1] := rfl
    have j0 : jsL 2 0 = [1] := rfl
    have j1 : jsL 2 1 = [] := rfl
    rw [r]
    simp only [List.findSome?_cons, j0, j1, List.find?_cons, List.find?_nil, Option.map_none, List.findSome?_nil]
    cases badP [b1, b2] [m1, m2] 0 1 <;> rfl
  rw [e]
  by_cases h : 0 < (m1 - m2) % (Int.gcd b1 b2 : Int)
  · have : badP [b1, b2] [m1, m2] 0 1 = true := decide_eq_true h
    rw [if_pos this, if_pos h]
  · have : badP [b1, b2] [m1, m2] 0 1 = false := decide_eq_false h
    rw [this, if_neg (by decide), if_neg h]
theorem Two.g (t : Two b1 b2 m1 m2) : 0 < (Int.gcd b1 b2 : Int) := gcd_pos' (by have := t.h1; omega)
theorem Two.moved (t : Two b1 b2 m1 m2) : firstBad [b1, b2] [m1, m2] = none ↔ (m1 - m2) % (Int.gcd b1 b2 : Int) = 0 := by
  have := Int.emod_nonneg (m1 - m2) (show (Int.gcd b1 b2 : Int) ≠ 0 by have := t.g; omega)
  rw [t.bad]
  split
  · constructor
    · intro z; cases z
    · intro z; omega
  · constructor
    · intro _; omega
    · intro _; rfl
theorem Two.met (t : Two b1 b2 m1 m2) : m2 ∈ met b1 b2.toNat m1 ↔ (m1 - m2) % (Int.gcd b1 b2 : Int) = 0 := by
  have e : ((b2.toNat : Nat) : Int) = b2 := Int.toNat_of_nonneg (by have := t.h2; omega)
  unfold K97.met
  rw [List.mem_filter, List.mem_map, e, decide_eq_true_eq]
  constructor
  · rintro ⟨_, h⟩
    have := Int.dvd_of_emod_eq_zero h
    refine Int.emod_eq_zero_of_dvd ?_
    have e2 : m1 - m2 = -(m2 - m1) := by omega
    rw [e2]
    exact Int.dvd_neg.mpr this
  · intro h
    have := Int.dvd_of_emod_eq_zero h
    refine ⟨⟨m2.toNat, List.mem_range.mpr (by have := t.k2; omega), by have := t.k2; omega⟩, Int.emod_eq_zero_of_dvd ?_⟩
    have e2 : m2 - m1 = -(m1 - m2) := by omega
    rw [e2]
    exact Int.dvd_neg.mpr this
theorem Two.lcm (t : Two b1 b2 m1 m2) : lcmL [b1, b2] = (Int.lcm b1 b2 : Int) := by
  show (Int.lcm (Int.lcm 1 b1 : Int) b2 : Int) = _
  have : (Int.lcm 1 b1 : Int) = b1 := by
    rw [Int.one_lcm]
    exact Int.natAbs_of_nonneg (by have := t.h1; omega)
  rw [this]
theorem Two.mul (t : Two b1 b2 m1 m2) : (Int.gcd b1 b2 : Int) * (Int.lcm b1 b2 : Int) = b1 * b2 := by
  have h := Int.gcd_mul_lcm b1 b2
  have h2 : ((Int.gcd b1 b2 * Int.lcm b1 b2 : Nat) : Int) = ((b1.natAbs * b2.natAbs : Nat) : Int) := by rw [h]
  rw [Int.natCast_mul, Int.natCast_mul, Int.natAbs_of_nonneg (by have := t.h1; omega), Int.natAbs_of_nonneg (by have := t.h2; omega)] at h2
  exact h2
theorem Two.cop (t : Two b1 b2 m1 m2) : prodF 1 [b1, b2] - lcmL [b1, b2] = 0 ↔ (Int.gcd b1 b2 : Int) = 1 := by
  have e : prodF 1 [b1, b2] = b1 * b2 := by show 1 * b1 * b2 = _; rw [Int.one_mul]
  have hl := K97.lcm_pos (show 0 < b1 by have := t.h1; omega) (show 0 < b2 by have := t.h2; omega)
  rw [e, t.lcm, ← t.mul]
  constructor
  · intro h
    have h3 : ((Int.gcd b1 b2 : Int) - 1) * (Int.lcm b1 b2 : Int) = 0 := by rw [Int.sub_mul]; omega
    rcases Int.mul_eq_zero.mp h3 with h | h <;> omega
  · intro h
    rw [h]
    omega
theorem Two.wheel1 (t : Two b1 b2 m1 m2) : b2 / (Int.gcd b1 b2 : Int) * b1 = (Int.lcm b1 b2 : Int) := by
  rw [← lcm_two (show 0 < b1 by have := t.h1; omega) (show 0 < b2 by have := t.h2; omega), Int.mul_ediv_assoc _ (Int.gcd_dvd_right b1 b2), Int.mul_comm]
theorem Two.wheel2 (t : Two b1 b2 m1 m2) : b1 / (Int.gcd b1 b2 : Int) * b2 = (Int.lcm b1 b2 : Int) := by
  rw [← lcm_two (show 0 < b1 by have := t.h1; omega) (show 0 < b2 by have := t.h2; omega), Int.mul_comm b1 b2, Int.mul_ediv_assoc _ (Int.gcd_dvd_left b1 b2), Int.mul_comm]
abbrev bodyTwo : FS := (sSeq (sSet 18 (mP (eTup (aCons (eFrz (e2 gIx (eVar 1) (eVar 11))) (aCons (eFrz (e2 gIx (eVar 1) (eVar 17))) aNil)))))
  (sSeq (sSet 19 (mP (e2 cmpEq (e2 gIx (eFn 2 c_marks_stand (aCons (eVar 18) (aCons (eTup (aCons (eFrz (e2 gIx (eVar 3) (eVar 11))) (aCons (eFrz (e2 gIx (eVar 3) (eVar 17))) aNil))) aNil))) (eC (.int 0))) (eC (.str "moved")))))
  (sSeq (sIf (mT (tst (e2 cmpNe (eVar 19) (e2 cmpIn (e2 gIx (eVar 3) (eVar 17)) (eFn 3 c_teeth_met (aCons (e2 gIx (eVar 1) (eVar 11)) (aCons (e2 gIx (eVar 1) (eVar 17)) (aCons (e2 gIx (eVar 3) (eVar 11)) aNil)))))))) (sRet (mP (eC (.bool false)))) sNext)
  (sSeq (sIf (mT (tst (e2 cmpNe (eFn 1 c_round_of (aCons (eVar 18) aNil)) (eFn 2 c_same_meet (aCons (e2 gIx (eVar 1) (eVar 11)) (aCons (e2 gIx (eVar 1) (eVar 17)) aNil)))))) (sRet (mP (eC (.bool false)))) sNext)
  (sSeq (sIf (mT (tst (e2 cmpNe (eFn 2 c_all_meet (aCons (e2 gIx (eVar 1) (eVar 11)) (aCons (e2 gIx (eVar 1) (eVar 17)) aNil))) (e2 cmpEq (eFn 1 c_never_many (aCons (eVar 18) aNil)) (eC (.int 0)))))) (sRet (mP (eC (.bool false)))) sNext)
  (sSeq (sSet 20 (mP (eFn 3 c_wheel_between (aCons (eVar 1) (aCons (eVar 11) (aCons (eVar 17) aNil))))))
  (sIf (mT (bOr (tst (e2 cmpNe (e2 gMul (e2 gIx (eVar 20) (eC (.int 0))) (e2 gIx (eVar 1) (eVar 11))) (e2 gMul (e2 gIx (eVar 20) (eC (.int 1))) (e2 gIx (eVar 1) (eVar 17))))) (tst (e2 cmpNe (e2 gMul (e2 gIx (eVar 20) (eC (.int 0))) (e2 gIx (eVar 1) (eVar 11))) (eFn 1 c_round_of (aCons (eVar 18) aNil)))))) (sRet (mP (eC (.bool false)))) sNext)))))))
theorem tw_tup {x y : Int} : toSl (.tuple [.int x, .int y]) = .ow (.tuple [.int x, .int y]) := rfl
theorem body_two {S : SE} {bs ms : List Int} {i j : Nat} {A0' A2' A4' s5 s6 s7 s8 s9 s10 s18 s19 s20 : Pd.Slot} (hb : Belt bs) (hm : Marks bs ms) (hi : i < bs.length) (hj : j < bs.length) (h18 : notIo (some s18) = true) (h19 : notIo (some s19) = true) (h20 : notIo (some s20) = true)
    (hS : ∀ s18 s19 s20, notIo (some s18) = true → notIo (some s19) = true → notIo (some s20) = true → S.nx [A0', .ow (tI bs), A2', .ow (tI ms), A4', s5, s6, s7, s8, s9, s10, .ow (.int (i : Int)), .no, .no, .no, .no, .no, .ow (.int (j : Int)), s18, s19, s20]) :
    bodyTwo S [A0', .ow (tI bs), A2', .ow (tI ms), A4', s5, s6, s7, s8, s9, s10, .ow (.int (i : Int)), .no, .no, .no, .no, .no, .ow (.int (j : Int)), s18, s19, s20] := by
  have l1 := hb.lim _ (getD_mem hi)
  have l2 := hb.lim _ (getD_mem hj)
  have z1 := hm.lim _ (mem_zip_at hm.len hi)
  have z2 := hm.lim _ (mem_zip_at hm.len hj)
  have e1 := get_ix (bs := bs) hi
  have e2 := get_ix (bs := bs) hj
  have e3 := get_ix (bs := ms) (show i < ms.length by have := hm.len; omega)
  have e4 := get_ix (bs := ms) (show j < ms.length by have := hm.len; omega)
  have qw := q_wheel_between hb hi hj
  have t : Two (bs.getD i 0) (bs.getD j 0) (ms.getD i 0) (ms.getD j 0) := ⟨l1, l2, z1, z2⟩
  generalize bs.getD i 0 = b1 at *
  generalize bs.getD j 0 = b2 at *
  generalize ms.getD i 0 = m1 at *
  generalize ms.getD j 0 = m2 at *
  have g1 : Gear b1 := ⟨l1.1, by omega⟩
  have g2 : Gear b2 := ⟨l2.1, by omega⟩
  have eb : ((b2.toNat : Nat) : Int) = b2 := Int.toNat_of_nonneg (by omega)
  have qs := q_marks_stand t.belt t.marks
  have qt := q_teeth_met (a := b1) (n := b2.toNat) (t := m1) g1 (by rw [eb]; exact g2) z1.1 z1.2
  rw [eb] at qt
  have qr := q_round_of t.belt
  have qm := q_same_meet g1 g2
  have qa := q_all_meet g1 g2
  have qn := q_never_many t.belt
  have word : ∃ z, standD [b1, b2] [m1, m2] = .tuple [.str (if firstBad [b1, b2] [m1, m2] = none then "moved" else "never"), z] := by
    cases q : firstBad [b1, b2] [m1, m2] with
    | none => exact ⟨_, by rw [stand_none q]; rfl⟩
    | some p => exact ⟨_, by rw [stand_some (i := p.1) (j := p.2) q]; rfl⟩
  obtain ⟨z, hz⟩ := word
  rw [hz] at qs
  rw [t.lcm] at qr
  simp only [tI, List.map_cons, List.map_nil] at qs qr qn
  have w1 := t.wheel1
  have w2 := t.wheel2
  have gg := t.g
  have hgl : (Int.gcd b1 b2 : Int) ≤ b1 := Int.le_of_dvd (by omega) (Int.gcd_dvd_left _ _)
  have d2 : 0 ≤ b2 / (Int.gcd b1 b2 : Int) := Int.ediv_nonneg (by omega) (by omega)
  have d2' : b2 / (Int.gcd b1 b2 : Int) ≤ b2 := Int.ediv_le_self _ (by omega)
  have d1 : 0 ≤ b1 / (Int.gcd b1 b2 : Int) := Int.ediv_nonneg (by omega) (by omega)
  have d1' : b1 / (Int.gcd b1 b2 : Int) ≤ b1 := Int.ediv_le_self _ (by omega)
  have mu1 := op_ii_mul (sm_small (show -(10 ^ 100) ≤ b2 / (Int.gcd b1 b2 : Int) by omega) (by omega)) (sm_small (show -(10 ^ 100) ≤ b1 by omega) (by omega))
  have mu2 := op_ii_mul (sm_small (show -(10 ^ 100) ≤ b1 / (Int.gcd b1 b2 : Int) by omega) (by omega)) (sm_small (show -(10 ^ 100) ≤ b2 by omega) (by omega))
  rw [w1] at mu1
  rw [w2] at mu2
  have ci : cmpIn (.int m2) (tI (met b1 b2.toNat m1)) = some (.bool (decide (firstBad [b1, b2] [m1, m2] = none))) := by
    rw [ci_it]
    congr 2
    rw [decide_eq_decide, t.met, t.moved]
  have cop := t.cop
  have wd : (decide ((if firstBad [b1, b2] [m1, m2] = none then ("moved" : Str) else "never") = "moved")) = decide (firstBad [b1, b2] [m1, m2] = none) := by
    by_cases h : firstBad [b1, b2] [m1, m2] = none
    · rw [if_pos h]; simp [h]
    · rw [if_neg h]; simp [h, word_ne]
  have co : decide (prodF 1 [b1, b2] - lcmL [b1, b2] = 0) = decide ((Int.gcd b1 b2 : Int) = 1) := decide_eq_decide.mpr cop
  simp only [tI] at qt ci
  simp [bodyTwo, h18, h19, h20, e1, e2, e3, e4, qs, qt, qr, qm, qa, qn, qw, mu1, mu2, ci, wd, co, word_ne]
  exact hS _ _ _ rfl rfl rfl
theorem fm_two {S : SE} {bs ms : List Int} {i : Nat} {A0' A2' A4' s5 s6 s7 s8 s9 s10 : Pd.Slot} (hb : Belt bs) (hm : Marks bs ms) (hi : i < bs.length)
    (hS : ∀ s17 s18 s19 s20, notIo (some s17) = true → notIo (some s18) = true → notIo (some s19) = true → notIo (some s20) = true → S.nx [A0', .ow (tI bs), A2', .ow (tI ms), A4', s5, s6, s7, s8, s9, s10, .ow (.int (i : Int)), .no, .no, .no, .no, .no, s17, s18, s19, s20]) : ∀ (js : List Nat) (s17 s18 s19 s20 : Pd.Slot), (∀ j ∈ js, j < bs.length) → notIo (some s17) = true → notIo (some s18) = true → notIo (some s19) = true → notIo (some s20) = true →
    forM (bbName 17) bodyTwo (js.map fun j : Nat => PyData.int (j : Int)) S [A0', .ow (tI bs), A2', .ow (tI ms), A4', s5, s6, s7, s8, s9, s10, .ow (.int (i : Int)), .no, .no, .no, .no, .no, s17, s18, s19, s20] := by
  intro js
  induction js with
  | nil => intro s17 s18 s19 s20 _ h17 h18 h19 h20; exact hS _ _ _ _ h17 h18 h19 h20
  | cons j js ih =>
    intro s17 s18 s19 s20 hj h17 h18 h19 h20
    rw [List.map_cons, ev_fcons]
    simp only [ev_bbname, List.getElem?_cons_succ, List.getElem?_cons_zero, h17, if_true, ev_os, List.set_cons_succ, List.set_cons_zero, ts_int]
    exact body_two hb hm hi (hj j List.mem_cons_self) h18 h19 h20 fun s18 s19 s20 h18 h19 h20 => ih _ s18 s19 s20 (fun x hx => hj x (List.mem_cons_of_mem _ hx)) rfl h18 h19 h20
theorem fm_twos {S : SE} {bs ms : List Int} {A0' A2' A4' s5 s6 s7 s8 s9 s10 : Pd.Slot} (hb : Belt bs) (hm : Marks bs ms)
    (hS : ∀ s11 s17 s18 s19 s20, notIo (some s17) = true → notIo (some s18) = true → notIo (some s19) = true → notIo (some s20) = true → S.nx [A0', .ow (tI bs), A2', .ow (tI ms), A4', s5, s6, s7, s8, s9, s10, s11, .no, .no, .no, .no, .no, s17, s18, s19, s20]) : ∀ (is : List Nat) (s11 s17 s18 s19 s20 : Pd.Slot), (∀ j ∈ is, j < bs.length) → notIo (some s11) = true → notIo (some s17) = true → notIo (some s18) = true → notIo (some s19) = true → notIo (some s20) = true →
    forM (bbName 11) (sFor (miOf giRg1 (maCons (mP (eCall gLen (aCons (eVar 1) aNil))) maNil)) (bbName 17) bodyTwo) (is.map fun j : Nat => PyData.int (j : Int)) S [A0', .ow (tI bs), A2', .ow (tI ms), A4', s5, s6, s7, s8, s9, s10, s11, .no, .no, .no, .no, .no, s17, s18, s19, s20] := by
  have hl6 := hb.len
  have rg := rg1_nat (show bs.length ≤ 1000000 by omega)
  intro is
  induction is with
  | nil => intro s11 s17 s18 s19 s20 _ h11 h17 h18 h19 h20; exact hS _ _ _ _ _ h17 h18 h19 h20
  | cons i is ih =>
    intro s11 s17 s18 s19 s20 hi h11 h17 h18 h19 h20
    rw [List.map_cons, ev_fcons]
    simp only [ev_bbname, List.getElem?_cons_succ, List.getElem?_cons_zero, h11, if_true, ev_os, List.set_cons_succ, List.set_cons_zero, ts_int, ev_for, ev_miof, ev_macons, ev_mP, ev_call, ev_acons, ev_anil, ev_var, ev_getS, ev_get0, ev_val1, Option.bind_some, ln_t, List.length_map, Option.map_some, ev_manil, rg]
    exact fm_two hb hm (hi i List.mem_cons_self) (fun s17 s18 s19 s20 h17 h18 h19 h20 => ih _ s17 s18 s19 s20 (fun x hx => hi x (List.mem_cons_of_mem _ hx)) rfl h17 h18 h19 h20) _ s17 s18 s19 s20 (fun j hj => List.mem_range.mp hj) h17 h18 h19 h20
theorem a12 {S : SE} {bs ms : List Int} {A0' A2' A4' s5 s6 s7 s8 s9 s10 : Pd.Slot} (hb : Belt bs) (hm : Marks bs ms)
    (hS : ∀ s11 s17 s18 s19 s20, notIo (some s17) = true → notIo (some s18) = true → notIo (some s19) = true → notIo (some s20) = true → S.nx [A0', .ow (tI bs), A2', .ow (tI ms), A4', s5, s6, s7, s8, s9, s10, s11, .no, .no, .no, .no, .no, s17, s18, s19, s20]) :
    A12 S [A0', .ow (tI bs), A2', .ow (tI ms), A4', s5, s6, s7, s8, s9, s10, .no, .no, .no, .no, .no, .no, .no, .no, .no, .no] := by
  have hl6 := hb.len
  have rg := rg1_nat (show bs.length ≤ 1000000 by omega)
  simp only [A12, m_law_are_marks_right_12, ev_for, ev_miof, ev_macons, ev_mP, ev_call, ev_acons, ev_anil, ev_var, ev_getS, ev_get0, ev_val1, Option.bind_some, ln_t, List.length_map, Option.map_some, ev_manil, rg, ev_os]
  exact fm_twos hb hm hS (List.range bs.length) .no .no .no .no .no (fun j hj => List.mem_range.mp hj) rfl rfl rfl rfl rfl
end K97

set_option Elab.async false
set_option linter.all false
set_option maxRecDepth 100000
set_option maxHeartbeats 4000000
/-! K97q: the slips, and the law's second def whole. -/
namespace K97
open PySem PySem.Spec PyProof.Rows L2 Pd Gen
variable {S : SE} {bs ms : List Int} {A0' A2' s5 s6 s7 s8 s9 s10 s11 s17 s18 s19 s20 : Pd.Slot}
theorem agree_iff (hb : Belt bs) (hm : Marks bs ms) : agree bs ms (List.range bs.length) = true ↔ firstBad bs ms = none := by
  constructor
  · intro h
    cases q : firstBad bs ms with
    | none => rfl
    | some p =>
      obtain ⟨i, j⟩ := p
      obtain ⟨b1, b2, b3⟩ := firstBad_some q
      unfold agree at h
      rw [List.all_eq_true] at h
      have h1 := h i (List.mem_range.mpr (by omega))
      rw [List.all_eq_true] at h1
      have h2 := h1 j (List.mem_range.mpr b2)
      rw [b3] at h2
      cases h2
  · intro h
    unfold agree
    rw [List.all_eq_true]
    intro i hi
    rw [List.all_eq_true]
    intro j hj
    have hi := List.mem_range.mp hi
    have hj := List.mem_range.mp hj
    have c := compat hb hm.len h _ (mem_zip_at hm.len hj) _ (mem_zip_at hm.len hi)
    have c : (Int.gcd (bs.getD j 0) (bs.getD i 0) : Int) ∣ ms.getD i 0 - ms.getD j 0 := c
    rw [Int.gcd_comm] at c
    have : badP bs ms i j = false := by
      unfold badP
      rw [Int.emod_eq_zero_of_dvd c]
      rfl
    rw [this]
    rfl
theorem lot_nil (hb : Belt bs) (hm : Marks bs ms) : slipLot bs ms = [] ↔ firstBad bs ms = none := by
  rw [← agree_iff hb hm]
  constructor
  · intro h
    have := (slip_spec (ms := ms) hb).2
    rw [h] at this
    have r : restN bs.length [] = List.range bs.length := by
      unfold restN
      rw [List.filter_eq_self]
      intro i _
      simp
    rwa [r] at this
  · exact slip_nil hb
noncomputable def restL (bs ms : List Int) : List Nat := restN bs.length (slipLot bs ms)
theorem cq_tN {ws : List Nat} : cmpEq (tN ws) (.tuple []) = some (.bool (decide (ws = []))) := by
  have e : tN ws = tI (ws.map fun i : Nat => (i : Int)) := by simp [tN, nI]
  rw [e]
  have : cmpEq (tI (ws.map fun i : Nat => (i : Int))) (.tuple (([] : List Int).map .int)) = _ := cq_tt
  rw [List.map_nil] at this
  rw [this]
  congr 2
  rw [decide_eq_decide, List.map_eq_nil_iff]
@[simp] theorem cq_ll {xs ys : List Int} : cmpEq (.list (xs.map .int)) (.list (ys.map .int)) = some (.bool (decide (xs = ys))) := by
  rw [cq_of (okD_mono (okD_lints (n := 0)) (by decide)) (okD_mono (okD_lints (n := 0)) (by decide))]
  show some (PyData.bool (PyData.eqvAll (xs.map .int) (ys.map .int))) = _
  rw [eqvAll_ints]
theorem cq_lN {ws : List Nat} : cmpEq (.list (nI ws)) (.list []) = some (.bool (decide (ws = []))) := by
  have e : nI ws = (ws.map fun i : Nat => (i : Int)).map .int := by simp
  rw [e]
  have : cmpEq (.list ((ws.map fun i : Nat => (i : Int)).map .int)) (.list (([] : List Int).map .int)) = _ := cq_ll
  rw [List.map_nil] at this
  rw [this]
  congr 2
  rw [decide_eq_decide, List.map_eq_nil_iff]
theorem a13 (hb : Belt bs) (hm : Marks bs ms) (hS : S.nx [A0', .ow (tI bs), A2', .ow (tI ms), .ow (standD bs ms), s5, s6, s7, s8, s9, s10, s11, .ow (tN (slipLot bs ms)), .no, .no, .no, .no, s17, s18, s19, s20]) : A13 S [A0', .ow (tI bs), A2', .ow (tI ms), .ow (standD bs ms), s5, s6, s7, s8, s9, s10, s11, .no, .no, .no, .no, .no, s17, s18, s19, s20] := by
  have q := q_slips_for hb hm
  simp only [A13, m_law_are_marks_right_13, ev_set, ev_mP, ev_fn, ev_acons, ev_anil, ev_var, ev_getS, ev_get0, ev_val1, Option.bind_some, List.length_cons, List.length_nil, if_true, q, Option.map_some, ev_os, List.getElem?_cons_succ, List.getElem?_cons_zero, ev_io3, true_and, List.set_cons_succ, List.set_cons_zero]
  exact hS
theorem a14 (hb : Belt bs) (hm : Marks bs ms) (hS : S.nx [A0', .ow (tI bs), A2', .ow (tI ms), .ow (standD bs ms), s5, s6, s7, s8, s9, s10, s11, .ow (tN (slipLot bs ms)), .no, .no, .no, .no, s17, s18, s19, s20]) : A14 S [A0', .ow (tI bs), A2', .ow (tI ms), .ow (standD bs ms), s5, s6, s7, s8, s9, s10, s11, .ow (tN (slipLot bs ms)), .no, .no, .no, .no, s17, s18, s19, s20] := by
  have hl := lot_nil hb hm
  have c := cq_tN (ws := slipLot bs ms)
  simp only [tN] at c
  cases q : firstBad bs ms with
  | none =>
    have := hl.mpr q
    rw [stand_none q] at hS ⊢
    rw [this] at c hS ⊢
    have c' : cmpEq (.tuple []) (.tuple []) = some (.bool true) := c
    simp [A14, m_law_are_marks_right_14, c']
    exact hS
  | some p =>
    obtain ⟨i, j⟩ := p
    have : slipLot bs ms ≠ [] := fun z => by
      have := hl.mp z
      rw [q] at this
      cases this
    rw [stand_some q] at hS ⊢
    simp [A14, m_law_are_marks_right_14, c, this, word_ne]
    exact hS
theorem lc_rest16 {lot : List Nat} {n : Nat} {s0 s1 s2 s3 s4 s13 s14 s15 : Pd.Slot} : compL (bName 16) (tst (e2 cmpNin (eVar 16) (eVar 12))) (eFrz (eVar 16)) [s0, s1, s2, s3, s4, s5, s6, s7, s8, s9, s10, s11, .ow (tN lot), s13, s14, s15, .no, s17, s18, s19, s20] ((List.range n).map fun i : Nat => PyData.int (i : Int)) = some (nI (restN n lot)) := by
  rw [lcFilter (p := fun i : Nat => decide (i ∉ lot)) (h := fun i : Nat => .int (i : Int))]
  · rfl
  · intro i _
    have e := nin_lot (i := i) (lot := lot)
    simp only [tN] at e
    simp only [ev_bname, List.set_cons_succ, List.set_cons_zero, Option.bind_some, ev_tst, ev_e2, ev_var, ev_getS, ev_get0, ev_val2, ev_val1, e, ev_toB, ev_frz, fz_int, if_true, Option.map_some]
    by_cases h : i ∈ lot <;> simp [h]
theorem a15 (hb : Belt bs) (hS : S.nx [A0', .ow (tI bs), A2', .ow (tI ms), .ow (standD bs ms), s5, s6, s7, s8, s9, s10, s11, .ow (tN (slipLot bs ms)), .ow (.list (nI (restL bs ms))), .no, .no, .no, s17, s18, s19, s20]) : A15 S [A0', .ow (tI bs), A2', .ow (tI ms), .ow (standD bs ms), s5, s6, s7, s8, s9, s10, s11, .ow (tN (slipLot bs ms)), .no, .no, .no, .no, s17, s18, s19, s20] := by
  have hl6 := hb.len
  have rg := rg1_nat (show bs.length ≤ 1000000 by omega)
  have c1 : bs.length ≤ cap := capL (by omega)
  simp only [A15, m_law_are_marks_right_15, ev_set, ev_mP, ev_lc, ev_iof, ev_call, ev_acons, ev_anil, ev_var, ev_getS, ev_get0, ev_val1, Option.bind_some, ln_t, List.length_map, rg, List.length_range, c1, if_true, ev_wipeS, ev_wipe0, List.set_cons_succ, List.set_cons_zero, lc_rest16, Option.map_some, ev_os, List.getElem?_cons_succ, List.getElem?_cons_zero, ev_io3, true_and]
  exact hS
theorem a16 (hb : Belt bs) (hR : restL bs ms = [] → ∀ ε : En, ε[0]? = some A0' → S.rt (.bool true) ε) (hS : restL bs ms ≠ [] → S.nx [A0', .ow (tI bs), A2', .ow (tI ms), .ow (standD bs ms), s5, s6, s7, s8, s9, s10, s11, .ow (tN (slipLot bs ms)), .ow (.list (nI (restL bs ms))), .no, .no, .no, s17, s18, s19, s20]) : A16 S [A0', .ow (tI bs), A2', .ow (tI ms), .ow (standD bs ms), s5, s6, s7, s8, s9, s10, s11, .ow (tN (slipLot bs ms)), .ow (.list (nI (restL bs ms))), .no, .no, .no, s17, s18, s19, s20] := by
  have c := cq_lN (ws := restL bs ms)
  have lr := lots_rest (slip_spec (ms := ms) hb).1
  by_cases h : restL bs ms = []
  · have e : (slipLot bs ms).length = bs.length := by
      unfold restL at h
      rw [h] at lr
      simpa using lr
    rw [decide_eq_true h] at c
    simp only [nI] at c
    have cl : cmpEq (.int (bs.length : Int)) (.int ((slipLot bs ms).length : Int)) = some (.bool true) := by rw [cq_ii, e]; simp
    simp [A16, m_law_are_marks_right_16, c, cl, e]
    exact hR h _ rfl
  · rw [decide_eq_false h] at c
    simp only [nI] at c
    simp [A16, m_law_are_marks_right_16, c]
    exact hS h
def sub (xs : List Int) (ws : List Nat) : List Int := ws.map fun w => xs.getD w 0
theorem sub_belt (hb : Belt bs) {ws : List Nat} (h : ws ≠ []) (hl : ws.length ≤ 6) (hw : ∀ w ∈ ws, w < bs.length) : Belt (sub bs ws) := ⟨by
  unfold sub
  rw [List.length_map]
  exact List.length_pos_iff.mpr h, by unfold sub; rw [List.length_map]; exact hl, fun b hb' => by
  obtain ⟨w, hw', rfl⟩ := List.mem_map.mp hb'
  exact hb.lim _ (getD_mem (hw w hw'))⟩
theorem sub_zip {ws : List Nat} : (sub ms ws).zip (sub bs ws) = ws.map fun w => (ms.getD w 0, bs.getD w 0) := by
  unfold sub
  induction ws with
  | nil => rfl
  | cons w ws ih => rw [List.map_cons, List.map_cons, List.map_cons, List.zip_cons_cons, ih]
theorem sub_marks (hm : Marks bs ms) {ws : List Nat} (hw : ∀ w ∈ ws, w < bs.length) : Marks (sub bs ws) (sub ms ws) := ⟨by simp [sub], fun p hp => by
  rw [sub_zip] at hp
  obtain ⟨w, hw', rfl⟩ := List.mem_map.mp hp
  exact hm.lim _ (mem_zip_at hm.len (hw w hw'))⟩
theorem sub_get {xs : List Int} {ws : List Nat} {k : Nat} (h : k < ws.length) : (sub xs ws).getD k 0 = xs.getD ws[k] 0 := by
  unfold sub
  simp only [List.getD_eq_getElem?_getD, List.getElem?_map, List.getElem?_eq_getElem h]
  rfl
theorem sub_free {ws : List Nat} (h : agree bs ms ws = true) : firstBad (sub bs ws) (sub ms ws) = none := by
  cases q : firstBad (sub bs ws) (sub ms ws) with
  | none => rfl
  | some p =>
    obtain ⟨i, j⟩ := p
    obtain ⟨b1, b2, b3⟩ := firstBad_some q
    have hl : (sub bs ws).length = ws.length := by simp [sub]
    have hj : j < ws.length := by omega
    have hi : i < ws.length := by omega
    unfold agree at h
    rw [List.all_eq_true] at h
    have h1 := h _ (List.getElem_mem hi)
    rw [List.all_eq_true] at h1
    have h2 := h1 _ (List.getElem_mem hj)
    unfold badP at b3 h2
    rw [sub_get hi, sub_get hj, sub_get hi, sub_get hj] at b3
    rw [b3] at h2
    cases h2
theorem lc_sub {xs : List Int} {ws : List Nat} {k : Nat} (hw : ∀ w ∈ ws, w < xs.length) {ε : En} (hk : Pd.get ε k = some (tI xs)) (h16 : k ≠ 16) (hlen : 16 < ε.length) : compL (bName 16) bTrue (eFrz (e2 gIx (eVar k) (eVar 16))) ε (ws.map fun i : Nat => PyData.int (i : Int)) = some ((sub xs ws).map .int) := by
  rw [lcMap (h := fun w : Nat => .int (xs.getD w 0))]
  · simp [sub]
  · intro w hw'
    have e1 := get_ix (bs := xs) (hw w hw')
    have g1 : Pd.get (ε.set 16 (.bo (.int (w : Int)))) k = some (tI xs) := by
      unfold Pd.get at hk ⊢
      rw [List.getElem?_set_ne (fun z => h16 z.symm)]
      exact hk
    have g2 : Pd.get (ε.set 16 (.bo (.int (w : Int)))) 16 = some (.int (w : Int)) := by
      unfold Pd.get
      rw [List.getElem?_set_self hlen]
      rfl
    simp only [ev_bname, Option.bind_some, ev_frz, ev_e2, ev_var, g1, g2, e1, fz_int, if_true]
theorem rest_facts (hb : Belt bs) (hm : Marks bs ms) (h : restL bs ms ≠ []) : Belt (sub bs (restL bs ms)) ∧ Marks (sub bs (restL bs ms)) (sub ms (restL bs ms)) ∧ firstBad (sub bs (restL bs ms)) (sub ms (restL bs ms)) = none := by
  have lr := lots_rest (slip_spec (ms := ms) hb).1
  have hl6 := hb.len
  exact ⟨sub_belt hb h (by unfold restL; omega) fun w hw => rest_lt w hw, sub_marks hm fun w hw => rest_lt w hw, sub_free (slip_spec hb).2⟩
theorem a17 (hb : Belt bs) (hm : Marks bs ms) (hne : restL bs ms ≠ []) (hS : S.nx [A0', .ow (tI bs), A2', .ow (tI ms), .ow (standD bs ms), s5, s6, s7, s8, s9, s10, s11, .ow (tN (slipLot bs ms)), .ow (.list (nI (restL bs ms))), .ow (standD (sub bs (restL bs ms)) (sub ms (restL bs ms))), .no, .no, s17, s18, s19, s20]) : A17 S [A0', .ow (tI bs), A2', .ow (tI ms), .ow (standD bs ms), s5, s6, s7, s8, s9, s10, s11, .ow (tN (slipLot bs ms)), .ow (.list (nI (restL bs ms))), .no, .no, .no, s17, s18, s19, s20] := by
  have hl6 := hb.len
  have lr := lots_rest (slip_spec (ms := ms) hb).1
  obtain ⟨f1, f2, f3⟩ := rest_facts hb hm hne
  have q := q_marks_stand f1 f2
  have c1 : (restL bs ms).length ≤ cap := capL (by unfold restL; omega)
  have lc1 := lc_sub (xs := bs) (ws := restL bs ms) (k := 1) (fun w hw => rest_lt w hw) (ε := [A0', .ow (tI bs), A2', .ow (tI ms), .ow (standD bs ms), s5, s6, s7, s8, s9, s10, s11, .ow (tN (slipLot bs ms)), .ow (.list (nI (restL bs ms))), .no, .no, .no, s17, s18, s19, s20]) rfl (by decide) (by simp)
  have lc2 := lc_sub (xs := ms) (ws := restL bs ms) (k := 3) (fun w hw => by have := rest_lt w hw; have := hm.len; omega) (ε := [A0', .ow (tI bs), A2', .ow (tI ms), .ow (standD bs ms), s5, s6, s7, s8, s9, s10, s11, .ow (tN (slipLot bs ms)), .ow (.list (nI (restL bs ms))), .no, .no, .no, s17, s18, s19, s20]) rfl (by decide) (by simp)
  have t1 := gl_tupL (fz_ints (xs := sub bs (restL bs ms)))
  have t2 := gl_tupL (fz_ints (xs := sub ms (restL bs ms)))
  simp only [A17, m_law_are_marks_right_17, ev_set, ev_mP, ev_fn, ev_acons, ev_anil, ev_call, ev_lc, ev_iself, ev_var, ev_getS, ev_get0, ev_val1, Option.bind_some, it_l, List.length_map, c1, if_true, ev_wipeS, ev_wipe0, List.set_cons_succ, List.set_cons_zero, lc1, lc2, Option.map_some, t1, t2, List.length_cons, List.length_nil, q, ev_os, List.getElem?_cons_succ, List.getElem?_cons_zero, ev_io3, true_and]
  exact hS
theorem a18 (hb : Belt bs) (hm : Marks bs ms) (hne : restL bs ms ≠ []) (hS : S.nx [A0', .ow (tI bs), A2', .ow (tI ms), .ow (standD bs ms), s5, s6, s7, s8, s9, s10, s11, .ow (tN (slipLot bs ms)), .ow (.list (nI (restL bs ms))), .ow (standD (sub bs (restL bs ms)) (sub ms (restL bs ms))), .no, .no, s17, s18, s19, s20]) : A18 S [A0', .ow (tI bs), A2', .ow (tI ms), .ow (standD bs ms), s5, s6, s7, s8, s9, s10, s11, .ow (tN (slipLot bs ms)), .ow (.list (nI (restL bs ms))), .ow (standD (sub bs (restL bs ms)) (sub ms (restL bs ms))), .no, .no, s17, s18, s19, s20] := by
  obtain ⟨f1, f2, f3⟩ := rest_facts hb hm hne
  rw [stand_none f3] at hS ⊢
  simp [A18, m_law_are_marks_right_18]
  exact hS
theorem a19 (hS : S.nx [A0', .ow (tI bs), A2', .ow (tI ms), .ow (standD bs ms), s5, s6, s7, s8, s9, s10, s11, .ow (tN (slipLot bs ms)), .ow (.list (nI (restL bs ms))), .ow (standD (sub bs (restL bs ms)) (sub ms (restL bs ms))), .ow (tI ms), .no, s17, s18, s19, s20]) : A19 S [A0', .ow (tI bs), A2', .ow (tI ms), .ow (standD bs ms), s5, s6, s7, s8, s9, s10, s11, .ow (tN (slipLot bs ms)), .ow (.list (nI (restL bs ms))), .ow (standD (sub bs (restL bs ms)) (sub ms (restL bs ms))), .no, .no, s17, s18, s19, s20] := by
  simp [A19, m_law_are_marks_right_19]
  exact hS
def hereL (bs : List Int) (x : Int) (ms : List Int) (lot : List Nat) : List Int := lot.foldl (fun h w => h.set w (x % bs.getD w 0)) ms
theorem set_marks {hs : List Int} (hm : Marks bs hs) (hb : Belt bs) {w : Nat} (hw : w < bs.length) (x : Int) : Marks bs (hs.set w (x % bs.getD w 0)) := ⟨by simpa using hm.len, fun p hp => by
  have hl : (hs.set w (x % bs.getD w 0)).length = bs.length := by simpa using hm.len
  obtain ⟨i, hi, rfl⟩ := zip_mem_at hp
  show 0 ≤ (hs.set w (x % bs.getD w 0)).getD i 0 ∧ (hs.set w (x % bs.getD w 0)).getD i 0 < bs.getD i 0
  have hpos := hb.pos _ (getD_mem hw)
  by_cases h : w = i
  · subst h
    have : (hs.set w (x % bs.getD w 0)).getD w 0 = x % bs.getD w 0 := by
      rw [List.getD_eq_getElem?_getD, List.getElem?_set_self (by have := hm.len; omega)]
      rfl
    rw [this]
    exact ⟨Int.emod_nonneg _ (by omega), Int.emod_lt_of_pos _ hpos⟩
  · have : (hs.set w (x % bs.getD w 0)).getD i 0 = hs.getD i 0 := by
      rw [List.getD_eq_getElem?_getD, List.getElem?_set_ne h, List.getD_eq_getElem?_getD]
    rw [this]
    exact hm.lim _ (mem_zip_at hm.len hi)⟩
theorem fm_here (hb : Belt bs) {x : Int} {z : D} {s12 s13 : Pd.Slot} : ∀ (lot : List Nat) (hs : List Int) (s16 : Pd.Slot), Marks bs hs → (∀ w ∈ lot, w < bs.length) → notIo (some s16) = true → (∀ s16, notIo (some s16) = true → S.nx [A0', .ow (tI bs), A2', .ow (tI ms), .ow (standD bs ms), s5, s6, s7, s8, s9, s10, s11, s12, s13, .ow (.tuple [z, .int x]), .ow (tI (hereL bs x hs lot)), s16, s17, s18, s19, s20]) →
    forM (bbName 16) (sSet 15 (mP (eFn 4 c_slipped (aCons (eVar 1) (aCons (eVar 15) (aCons (eVar 16) (aCons (e2 Pd.gSub (e2 gMod (eCall gInt (aCons (e2 gIx (eVar 14) (eC (.int 1))) aNil)) (e2 gIx (eVar 1) (eVar 16))) (e2 gIx (eVar 15) (eVar 16))) aNil))))))) (lot.map fun i : Nat => PyData.int (i : Int)) S [A0', .ow (tI bs), A2', .ow (tI ms), .ow (standD bs ms), s5, s6, s7, s8, s9, s10, s11, s12, s13, .ow (.tuple [z, .int x]), .ow (tI hs), s16, s17, s18, s19, s20] := by
  intro lot
  induction lot with
  | nil => intro hs s16 _ _ h16 h; exact h s16 h16
  | cons w lot ih =>
    intro hs s16 hm hw h16 h
    have hw0 := hw w List.mem_cons_self
    have ih2 := ih (hs.set w (x % bs.getD w 0)) (.ow (.int (w : Int))) (set_marks hm hb hw0 x) (fun y hy => hw y (List.mem_cons_of_mem _ hy)) rfl h
    have e1 := get_ix (bs := bs) hw0
    have e2 := get_ix (bs := hs) (show w < hs.length by have := hm.len; omega)
    have hl := hb.lim _ (getD_mem hw0)
    have hz := hm.lim _ (mem_zip_at hm.len hw0)
    have v0 := Int.emod_nonneg x (show bs.getD w 0 ≠ 0 by omega)
    have v1 := Int.emod_lt_of_pos x (show 0 < bs.getD w 0 by omega)
    have hz1 : 0 ≤ hs.getD w 0 ∧ hs.getD w 0 < bs.getD w 0 := hz
    have q := q_slipped hb hm hw0 (t := x % bs.getD w 0 - hs.getD w 0) (by omega) (by omega)
    have ee : (hs.getD w 0 + (x % bs.getD w 0 - hs.getD w 0)) % bs.getD w 0 = x % bs.getD w 0 := by
      have : hs.getD w 0 + (x % bs.getD w 0 - hs.getD w 0) = x % bs.getD w 0 := by omega
      rw [this]
      exact Int.emod_eq_of_lt v0 v1
    rw [ee] at q
    rw [List.map_cons, ev_fcons]
    have md := op_ii_mod (i := x) (show 0 < bs.getD w 0 by omega)
    simp only [ev_bbname, List.getElem?_cons_succ, List.getElem?_cons_zero, h16, if_true, ev_os, List.set_cons_succ, List.set_cons_zero, ts_int, ev_set, ev_mP, ev_fn, ev_acons, ev_anil, ev_e2, ev_call, ev_var, ev_c, ev_getS, ev_get0, ev_val1, Option.bind_some, ix_t1, gl_int, e1, e2, md, op_ii_sub, List.length_cons, List.length_nil, q, Option.map_some, ev_io1, true_and]
    exact ih2
theorem a20 (hb : Belt bs) (hm : Marks bs ms) (hne : restL bs ms ≠ []) (hS : ∀ s16, notIo (some s16) = true → S.nx [A0', .ow (tI bs), A2', .ow (tI ms), .ow (standD bs ms), s5, s6, s7, s8, s9, s10, s11, .ow (tN (slipLot bs ms)), .ow (.list (nI (restL bs ms))), .ow (standD (sub bs (restL bs ms)) (sub ms (restL bs ms))), .ow (tI (hereL bs (crtV (sub bs (restL bs ms)) (sub ms (restL bs ms))) ms (slipLot bs ms))), s16, s17, s18, s19, s20]) : A20 S [A0', .ow (tI bs), A2', .ow (tI ms), .ow (standD bs ms), s5, s6, s7, s8, s9, s10, s11, .ow (tN (slipLot bs ms)), .ow (.list (nI (restL bs ms))), .ow (standD (sub bs (restL bs ms)) (sub ms (restL bs ms))), .ow (tI ms), .no, s17, s18, s19, s20] := by
  obtain ⟨f1, f2, f3⟩ := rest_facts hb hm hne
  rw [stand_none f3] at hS ⊢
  have fz := fz_nI (ws := slipLot bs ms)
  simp only [A20, m_law_are_marks_right_20, ev_for, ev_miself, ev_lendS, ev_lend0, fz_tup, fz, if_true, Option.map_some, Option.bind_some, it_t, ev_os]
  exact fm_here hb (slipLot bs ms) ms .no hm (fun w hw => lots_lt (slip_spec hb).1 w hw) rfl hS
theorem here_marks (hb : Belt bs) {x : Int} : ∀ (lot : List Nat) (hs : List Int), Marks bs hs → (∀ w ∈ lot, w < bs.length) → Marks bs (hereL bs x hs lot)
  | [], hs, h, _ => h
  | w :: lot, hs, h, hw => here_marks hb lot _ (set_marks h hb (hw w List.mem_cons_self) x) fun y hy => hw y (List.mem_cons_of_mem _ hy)
theorem here_get {x : Int} : ∀ (lot : List Nat) (hs : List Int) (i : Nat), hs.length = bs.length → i < bs.length → (hereL bs x hs lot).getD i 0 = if i ∈ lot then x % bs.getD i 0 else hs.getD i 0
  | [], hs, i, _, _ => by simp [hereL]
  | w :: lot, hs, i, hl, hi => by
    have ih := here_get (x := x) lot (hs.set w (x % bs.getD w 0)) i (by simpa using hl) hi
    show (hereL bs x (hs.set w (x % bs.getD w 0)) lot).getD i 0 = _
    rw [ih]
    by_cases h1 : i ∈ lot
    · rw [if_pos h1, if_pos (List.mem_cons_of_mem _ h1)]
    · rw [if_neg h1]
      by_cases h2 : w = i
      · subst h2
        rw [if_pos List.mem_cons_self, List.getD_eq_getElem?_getD, List.getElem?_set_self (by omega)]
        rfl
      · have h3 : ¬ i ∈ w :: lot := fun z => by
          rcases List.mem_cons.mp z with z | z
          · exact h2 z.symm
          · exact h1 z
        rw [if_neg h3, List.getD_eq_getElem?_getD, List.getElem?_set_ne h2, List.getD_eq_getElem?_getD]
noncomputable abbrev hereX (bs ms : List Int) : List Int := hereL bs (crtV (sub bs (restL bs ms)) (sub ms (restL bs ms))) ms (slipLot bs ms)
theorem here_free (hb : Belt bs) (hm : Marks bs ms) (hne : restL bs ms ≠ []) : Marks bs (hereX bs ms) ∧ firstBad bs (hereX bs ms) = none ∧ ∀ w ∈ restL bs ms, (hereX bs ms).getD w 0 = ms.getD w 0 := by
  obtain ⟨f1, f2, f3⟩ := rest_facts hb hm hne
  obtain ⟨c0, c1, c2⟩ := crtV_spec f1 f2 f3
  have mk := here_marks hb (x := (crtV (sub bs (restL bs ms)) (sub ms (restL bs ms)))) (slipLot bs ms) ms hm fun w hw => lots_lt (slip_spec hb).1 w hw
  have keep : ∀ w ∈ restL bs ms, (hereX bs ms).getD w 0 = ms.getD w 0 := fun w hw => by
    have hlt : w < bs.length := rest_lt w hw
    have hn : w ∉ slipLot bs ms := by
      have := (List.mem_filter.mp hw).2
      simpa using this
    rw [here_get _ _ _ hm.len hlt, if_neg hn]
  refine ⟨mk, ?_, keep⟩
  have meets : Meets (crtV (sub bs (restL bs ms)) (sub ms (restL bs ms))) ((hereX bs ms).zip bs) := fun p hp => by
    obtain ⟨i, hi, rfl⟩ := zip_mem_at hp
    show (crtV (sub bs (restL bs ms)) (sub ms (restL bs ms))) % bs.getD i 0 = (hereX bs ms).getD i 0
    by_cases h : i ∈ slipLot bs ms
    · rw [here_get _ _ _ hm.len hi, if_pos h]
    · have hr : i ∈ restL bs ms := List.mem_filter.mpr ⟨List.mem_range.mpr hi, by simpa using h⟩
      rw [keep i hr]
      have := c2 (ms.getD i 0, bs.getD i 0) (by
        rw [sub_zip]
        exact List.mem_map.mpr ⟨i, hr, rfl⟩)
      exact this
  cases q : firstBad bs (hereX bs ms) with
  | none => rfl
  | some p =>
    obtain ⟨i, j⟩ := p
    obtain ⟨b1, b2, b3⟩ := firstBad_some q
    exact absurd meets (no_meets hb mk.len (show i < bs.length by omega) b2 b3 _)
theorem a21 (hb : Belt bs) (hm : Marks bs ms) (hne : restL bs ms ≠ []) {s16 : Pd.Slot} (h16 : notIo (some s16) = true) (hS : ∀ ε : En, ε[0]? = some A0' → S.rt (.bool true) ε) : A21 S [A0', .ow (tI bs), A2', .ow (tI ms), .ow (standD bs ms), s5, s6, s7, s8, s9, s10, s11, .ow (tN (slipLot bs ms)), .ow (.list (nI (restL bs ms))), .ow (standD (sub bs (restL bs ms)) (sub ms (restL bs ms))), .ow (tI (hereX bs ms)), s16, s17, s18, s19, s20] := by
  obtain ⟨h1, h2, h3⟩ := here_free hb hm hne
  have q := q_marks_stand hb h1
  rw [stand_none h2] at q
  have lr := lots_rest (slip_spec (ms := ms) hb).1
  have hl6 := hb.len
  have c1 : (restL bs ms).length ≤ cap := capL (by unfold restL; omega)
  generalize hereX bs ms = hs at *
  have lc : compL (bName 16) bTrue (e2 cmpEq (e2 gIx (eVar 15) (eVar 16)) (e2 gIx (eVar 3) (eVar 16))) [A0', .ow (tI bs), A2', .ow (tI ms), .ow (standD bs ms), s5, s6, s7, s8, s9, s10, s11, .ow (tN (slipLot bs ms)), .ow (.list (nI (restL bs ms))), .ow (standD (sub bs (restL bs ms)) (sub ms (restL bs ms))), .ow (tI hs), .no, s17, s18, s19, s20] ((restL bs ms).map fun i : Nat => PyData.int (i : Int)) = some ((restL bs ms).map fun _ => PyData.bool true) := by
    refine lcMap fun w hw => ?_
    have hlt : w < bs.length := rest_lt w hw
    have e1 := get_ix (bs := hs) (show w < hs.length by have := h1.len; omega)
    have e2 := get_ix (bs := ms) (show w < ms.length by have := hm.len; omega)
    rw [h3 w hw] at e1
    simp only [ev_bname, Option.bind_some, List.set_cons_succ, List.set_cons_zero, ev_e2, ev_var, ev_getS, ev_get0, ev_val1, ev_val2, e1, e2, cq_ii, decide_true]
  have ga : gAll [.list ((restL bs ms).map fun _ => PyData.bool true)] = some (.bool true) := gl_allT
  simp only [A21, m_law_are_marks_right_21, ev_ret, ev_mP, ev_eand, ev_e2, ev_fn, ev_acons, ev_anil, ev_var, ev_c, ev_getS, ev_get0, ev_val1, Option.bind_some, List.length_cons, List.length_nil, if_true, q, ix_t0, cq_ss, decide_true, ev_toB, ev_call, ev_lc, ev_iself, it_l, List.length_map, c1, ev_wipeS, ev_wipe0, List.set_cons_succ, List.set_cons_zero, lc, Option.map_some, ga, ev_os]
  exact hS _ rfl
/-! the whole def -/
def markHand (h : Hand) (bs : List Int) : Hand := ((drawAll h bs).2.draw 1000000).2
noncomputable def c_law_are_marks_right := gOfI (fun a : Hand × List Int => [handD a.1, tI a.2, .int (lcmL a.2)]) (fun a => a.1.Ok 800000 ∧ Belt a.2) (fun a => (.bool true, handD (markHand a.1 a.2)))
theorem q_law_are_marks_right {h : Hand} {bs : List Int} (o : h.Ok 800000) (hb : Belt bs) : c_law_are_marks_right [handD h, tI bs, .int (lcmL bs)] = some (.bool true, handD (markHand h bs)) := gOfI_eq (f := fun a : Hand × List Int => [handD a.1, tI a.2, .int (lcmL a.2)]) (fun a b h => by
  simp only [List.cons.injEq, PyData.tuple.injEq, and_true] at h
  have e1 := handD_inj h.1
  have e2 := ints_inj h.2.1
  obtain ⟨a1, a2⟩ := a
  obtain ⟨b1, b2⟩ := b
  simp only at e1 e2
  subst e1 e2
  rfl) (a := (h, bs)) ⟨o, hb⟩
theorem run_marks {S : SE} {h : Hand} {bs : List Int} (o : h.Ok 800000) (hb : Belt bs) (hR : ∀ ε : En, ε[0]? = some (.io (handD (markHand h bs))) → S.rt (.bool true) ε) :
    B0 S [.io (handD h), .ow (tI bs), .ow (.int (lcmL bs)), .no, .no, .no, .no, .no, .no, .no, .no, .no, .no, .no, .no, .no, .no, .no, .no, .no, .no] := by
  obtain ⟨d1, d2, d3⟩ := drawAll_spec bs h 800000 o hb.pos
  have hm : Marks bs (drawAll h bs).1 := ⟨d1, d2⟩
  have o2 := d3.mono (m := 900000) (by have := hb.len; omega)
  obtain ⟨_, v0, v1⟩ := o2.draw (many := 1000000) (by decide)
  unfold markHand at hR
  refine a0 (S := ⟨B1 S, S.rt, S.bk, S.ct⟩) hb o (by decide) ?_
  generalize (drawAll h bs).1 = ms at *
  generalize (drawAll h bs).2 = g at *
  refine a1 (S := ⟨B2 S, S.rt, S.bk, S.ct⟩) hb hm ?_
  refine a2 (S := ⟨B3 S, S.rt, S.bk, S.ct⟩) hb fun s6 _ => ?_
  refine a3 (S := ⟨B4 S, S.rt, S.bk, S.ct⟩) hb hm ?_
  refine a4 (S := ⟨B5 S, S.rt, S.bk, S.ct⟩) hb hm ?_
  refine a5 (S := ⟨B6 S, S.rt, S.bk, S.ct⟩) ?_
  refine a6 (S := ⟨B7 S, S.rt, S.bk, S.ct⟩) hb fun s8 _ => ?_
  refine a7 (S := ⟨B8 S, S.rt, S.bk, S.ct⟩) hb ?_
  refine a8 (S := ⟨B9 S, S.rt, S.bk, S.ct⟩) o2 (by decide) ?_
  refine a9 (S := ⟨B10 S, S.rt, S.bk, S.ct⟩) hb hm v0 v1 ?_
  refine a10 (S := ⟨B11 S, S.rt, S.bk, S.ct⟩) ?_
  refine a11 (S := ⟨B12 S, S.rt, S.bk, S.ct⟩) hb hm v0 v1 ?_
  refine a12 (S := ⟨B13 S, S.rt, S.bk, S.ct⟩) hb hm fun s11 s17 s18 s19 s20 _ _ _ _ => ?_
  refine a13 (S := ⟨B14 S, S.rt, S.bk, S.ct⟩) hb hm ?_
  refine a14 (S := ⟨B15 S, S.rt, S.bk, S.ct⟩) hb hm ?_
  refine a15 (S := ⟨B16 S, S.rt, S.bk, S.ct⟩) hb ?_
  refine a16 (S := ⟨B17 S, S.rt, S.bk, S.ct⟩) hb (fun _ => hR) fun hne => ?_
  refine a17 (S := ⟨B18 S, S.rt, S.bk, S.ct⟩) hb hm hne ?_
  refine a18 (S := ⟨B19 S, S.rt, S.bk, S.ct⟩) hb hm hne ?_
  refine a19 (S := ⟨B20 S, S.rt, S.bk, S.ct⟩) ?_
  refine a20 (S := ⟨B21 S, S.rt, S.bk, S.ct⟩) hb hm hne fun s16 h16 => ?_
  exact a21 (S := S) hb hm hne h16 hR
theorem l_law_are_marks_right : ∀ dpre d dpost r d', dpre.length = 0 → dpre.length + 1 + dpost.length = 3 → c_law_are_marks_right (dpre ++ d :: dpost) = some (r, d') → m_law_are_marks_right c_marks_stand c_slipped c_slips_for c_round_of c_wheel_between c_all_meet c_never_many c_same_meet c_teeth_met c_next_stand c_law_draw c_is_marks_stand c_marks_after (seI 0 r d') (envI dpre d dpost 18) := by
  intro dpre d dpost r d' hl _ h
  obtain ⟨⟨hd, bs⟩, ⟨o, hb⟩, e, q⟩ := gOfI_inv h
  have e0 := List.eq_nil_of_length_eq_zero hl
  subst e0
  simp only [List.nil_append, List.cons.injEq] at e
  obtain ⟨rfl, rfl⟩ := e
  cases q
  simp only at o hb
  rw [e_law_are_marks_right]
  have ts : toSl (tI bs) = .ow (tI bs) := by rw [tI, ts_tup, fz_ints]; rfl
  have en : envI [] (handD hd) [tI bs, .int (lcmL bs)] 18 = [.io (handD hd), .ow (tI bs), .ow (.int (lcmL bs)), .no, .no, .no, .no, .no, .no, .no, .no, .no, .no, .no, .no, .no, .no, .no, .no, .no, .no] := by
    show [Pd.Slot.io (handD hd), toSl (tI bs), toSl (.int (lcmL bs)), .no, .no, .no, .no, .no, .no, .no, .no, .no, .no, .no, .no, .no, .no, .no, .no, .no, .no] = _
    rw [ts]
    rfl
  rw [en]
  exact run_marks o hb fun ε z => ⟨rfl, z⟩
end K97

set_option Elab.async false
set_option linter.all false
set_option maxRecDepth 100000
set_option maxHeartbeats 4000000
/-! K97m: the law's first def. -/
namespace K97
open PySem PySem.Spec PyProof.Rows L2 Pd Gen
noncomputable abbrev C0 : FS := m_law_right_0 c_law_are_marks_right c_saved_visits c_sooner_of c_law_draw c_joined_visits c_plain_visits c_done_many c_turns_after c_plain_days c_marks_after c_next_due c_due_on c_plain_many c_marks_all c_stand_many c_all_due c_round_of c_law_any
noncomputable abbrev C1 : FS := m_law_right_1 c_law_are_marks_right c_saved_visits c_sooner_of c_law_draw c_joined_visits c_plain_visits c_done_many c_turns_after c_plain_days c_marks_after c_next_due c_due_on c_plain_many c_marks_all c_stand_many c_all_due c_round_of c_law_any
noncomputable abbrev C2 : FS := m_law_right_2 c_law_are_marks_right c_saved_visits c_sooner_of c_law_draw c_joined_visits c_plain_visits c_done_many c_turns_after c_plain_days c_marks_after c_next_due c_due_on c_plain_many c_marks_all c_stand_many c_all_due c_round_of c_law_any
noncomputable abbrev C3 : FS := m_law_right_3 c_law_are_marks_right c_saved_visits c_sooner_of c_law_draw c_joined_visits c_plain_visits c_done_many c_turns_after c_plain_days c_marks_after c_next_due c_due_on c_plain_many c_marks_all c_stand_many c_all_due c_round_of c_law_any
noncomputable abbrev C4 : FS := m_law_right_4 c_law_are_marks_right c_saved_visits c_sooner_of c_law_draw c_joined_visits c_plain_visits c_done_many c_turns_after c_plain_days c_marks_after c_next_due c_due_on c_plain_many c_marks_all c_stand_many c_all_due c_round_of c_law_any
noncomputable abbrev C5 : FS := m_law_right_5 c_law_are_marks_right c_saved_visits c_sooner_of c_law_draw c_joined_visits c_plain_visits c_done_many c_turns_after c_plain_days c_marks_after c_next_due c_due_on c_plain_many c_marks_all c_stand_many c_all_due c_round_of c_law_any
noncomputable abbrev C6 : FS := m_law_right_6 c_law_are_marks_right c_saved_visits c_sooner_of c_law_draw c_joined_visits c_plain_visits c_done_many c_turns_after c_plain_days c_marks_after c_next_due c_due_on c_plain_many c_marks_all c_stand_many c_all_due c_round_of c_law_any
noncomputable abbrev C7 : FS := m_law_right_7 c_law_are_marks_right c_saved_visits c_sooner_of c_law_draw c_joined_visits c_plain_visits c_done_many c_turns_after c_plain_days c_marks_after c_next_due c_due_on c_plain_many c_marks_all c_stand_many c_all_due c_round_of c_law_any
noncomputable abbrev C8 : FS := m_law_right_8 c_law_are_marks_right c_saved_visits c_sooner_of c_law_draw c_joined_visits c_plain_visits c_done_many c_turns_after c_plain_days c_marks_after c_next_due c_due_on c_plain_many c_marks_all c_stand_many c_all_due c_round_of c_law_any
noncomputable abbrev C9 : FS := m_law_right_9 c_law_are_marks_right c_saved_visits c_sooner_of c_law_draw c_joined_visits c_plain_visits c_done_many c_turns_after c_plain_days c_marks_after c_next_due c_due_on c_plain_many c_marks_all c_stand_many c_all_due c_round_of c_law_any
noncomputable abbrev C10 : FS := m_law_right_10 c_law_are_marks_right c_saved_visits c_sooner_of c_law_draw c_joined_visits c_plain_visits c_done_many c_turns_after c_plain_days c_marks_after c_next_due c_due_on c_plain_many c_marks_all c_stand_many c_all_due c_round_of c_law_any
noncomputable abbrev C11 : FS := m_law_right_11 c_law_are_marks_right c_saved_visits c_sooner_of c_law_draw c_joined_visits c_plain_visits c_done_many c_turns_after c_plain_days c_marks_after c_next_due c_due_on c_plain_many c_marks_all c_stand_many c_all_due c_round_of c_law_any
noncomputable abbrev C12 : FS := m_law_right_12 c_law_are_marks_right c_saved_visits c_sooner_of c_law_draw c_joined_visits c_plain_visits c_done_many c_turns_after c_plain_days c_marks_after c_next_due c_due_on c_plain_many c_marks_all c_stand_many c_all_due c_round_of c_law_any
noncomputable abbrev C13 : FS := m_law_right_13 c_law_are_marks_right c_saved_visits c_sooner_of c_law_draw c_joined_visits c_plain_visits c_done_many c_turns_after c_plain_days c_marks_after c_next_due c_due_on c_plain_many c_marks_all c_stand_many c_all_due c_round_of c_law_any
noncomputable abbrev C14 : FS := m_law_right_14 c_law_are_marks_right c_saved_visits c_sooner_of c_law_draw c_joined_visits c_plain_visits c_done_many c_turns_after c_plain_days c_marks_after c_next_due c_due_on c_plain_many c_marks_all c_stand_many c_all_due c_round_of c_law_any
noncomputable abbrev C15 : FS := m_law_right_15 c_law_are_marks_right c_saved_visits c_sooner_of c_law_draw c_joined_visits c_plain_visits c_done_many c_turns_after c_plain_days c_marks_after c_next_due c_due_on c_plain_many c_marks_all c_stand_many c_all_due c_round_of c_law_any
noncomputable abbrev C16 : FS := m_law_right_16 c_law_are_marks_right c_saved_visits c_sooner_of c_law_draw c_joined_visits c_plain_visits c_done_many c_turns_after c_plain_days c_marks_after c_next_due c_due_on c_plain_many c_marks_all c_stand_many c_all_due c_round_of c_law_any
noncomputable abbrev C17 : FS := m_law_right_17 c_law_are_marks_right c_saved_visits c_sooner_of c_law_draw c_joined_visits c_plain_visits c_done_many c_turns_after c_plain_days c_marks_after c_next_due c_due_on c_plain_many c_marks_all c_stand_many c_all_due c_round_of c_law_any
noncomputable abbrev C18 : FS := m_law_right_18 c_law_are_marks_right c_saved_visits c_sooner_of c_law_draw c_joined_visits c_plain_visits c_done_many c_turns_after c_plain_days c_marks_after c_next_due c_due_on c_plain_many c_marks_all c_stand_many c_all_due c_round_of c_law_any
noncomputable abbrev C19 : FS := m_law_right_19 c_law_are_marks_right c_saved_visits c_sooner_of c_law_draw c_joined_visits c_plain_visits c_done_many c_turns_after c_plain_days c_marks_after c_next_due c_due_on c_plain_many c_marks_all c_stand_many c_all_due c_round_of c_law_any
noncomputable abbrev C20 : FS := m_law_right_20 c_law_are_marks_right c_saved_visits c_sooner_of c_law_draw c_joined_visits c_plain_visits c_done_many c_turns_after c_plain_days c_marks_after c_next_due c_due_on c_plain_many c_marks_all c_stand_many c_all_due c_round_of c_law_any
noncomputable abbrev E0 : FS := b_law_right_0 c_law_are_marks_right c_saved_visits c_sooner_of c_law_draw c_joined_visits c_plain_visits c_done_many c_turns_after c_plain_days c_marks_after c_next_due c_due_on c_plain_many c_marks_all c_stand_many c_all_due c_round_of c_law_any
noncomputable abbrev E1 : FS := b_law_right_1 c_law_are_marks_right c_saved_visits c_sooner_of c_law_draw c_joined_visits c_plain_visits c_done_many c_turns_after c_plain_days c_marks_after c_next_due c_due_on c_plain_many c_marks_all c_stand_many c_all_due c_round_of c_law_any
noncomputable abbrev E2 : FS := b_law_right_2 c_law_are_marks_right c_saved_visits c_sooner_of c_law_draw c_joined_visits c_plain_visits c_done_many c_turns_after c_plain_days c_marks_after c_next_due c_due_on c_plain_many c_marks_all c_stand_many c_all_due c_round_of c_law_any
noncomputable abbrev E3 : FS := b_law_right_3 c_law_are_marks_right c_saved_visits c_sooner_of c_law_draw c_joined_visits c_plain_visits c_done_many c_turns_after c_plain_days c_marks_after c_next_due c_due_on c_plain_many c_marks_all c_stand_many c_all_due c_round_of c_law_any
noncomputable abbrev E4 : FS := b_law_right_4 c_law_are_marks_right c_saved_visits c_sooner_of c_law_draw c_joined_visits c_plain_visits c_done_many c_turns_after c_plain_days c_marks_after c_next_due c_due_on c_plain_many c_marks_all c_stand_many c_all_due c_round_of c_law_any
noncomputable abbrev E5 : FS := b_law_right_5 c_law_are_marks_right c_saved_visits c_sooner_of c_law_draw c_joined_visits c_plain_visits c_done_many c_turns_after c_plain_days c_marks_after c_next_due c_due_on c_plain_many c_marks_all c_stand_many c_all_due c_round_of c_law_any
noncomputable abbrev E6 : FS := b_law_right_6 c_law_are_marks_right c_saved_visits c_sooner_of c_law_draw c_joined_visits c_plain_visits c_done_many c_turns_after c_plain_days c_marks_after c_next_due c_due_on c_plain_many c_marks_all c_stand_many c_all_due c_round_of c_law_any
noncomputable abbrev E7 : FS := b_law_right_7 c_law_are_marks_right c_saved_visits c_sooner_of c_law_draw c_joined_visits c_plain_visits c_done_many c_turns_after c_plain_days c_marks_after c_next_due c_due_on c_plain_many c_marks_all c_stand_many c_all_due c_round_of c_law_any
noncomputable abbrev E8 : FS := b_law_right_8 c_law_are_marks_right c_saved_visits c_sooner_of c_law_draw c_joined_visits c_plain_visits c_done_many c_turns_after c_plain_days c_marks_after c_next_due c_due_on c_plain_many c_marks_all c_stand_many c_all_due c_round_of c_law_any
noncomputable abbrev E9 : FS := b_law_right_9 c_law_are_marks_right c_saved_visits c_sooner_of c_law_draw c_joined_visits c_plain_visits c_done_many c_turns_after c_plain_days c_marks_after c_next_due c_due_on c_plain_many c_marks_all c_stand_many c_all_due c_round_of c_law_any
noncomputable abbrev E10 : FS := b_law_right_10 c_law_are_marks_right c_saved_visits c_sooner_of c_law_draw c_joined_visits c_plain_visits c_done_many c_turns_after c_plain_days c_marks_after c_next_due c_due_on c_plain_many c_marks_all c_stand_many c_all_due c_round_of c_law_any
noncomputable abbrev E11 : FS := b_law_right_11 c_law_are_marks_right c_saved_visits c_sooner_of c_law_draw c_joined_visits c_plain_visits c_done_many c_turns_after c_plain_days c_marks_after c_next_due c_due_on c_plain_many c_marks_all c_stand_many c_all_due c_round_of c_law_any
noncomputable abbrev E12 : FS := b_law_right_12 c_law_are_marks_right c_saved_visits c_sooner_of c_law_draw c_joined_visits c_plain_visits c_done_many c_turns_after c_plain_days c_marks_after c_next_due c_due_on c_plain_many c_marks_all c_stand_many c_all_due c_round_of c_law_any
noncomputable abbrev E13 : FS := b_law_right_13 c_law_are_marks_right c_saved_visits c_sooner_of c_law_draw c_joined_visits c_plain_visits c_done_many c_turns_after c_plain_days c_marks_after c_next_due c_due_on c_plain_many c_marks_all c_stand_many c_all_due c_round_of c_law_any
noncomputable abbrev E14 : FS := b_law_right_14 c_law_are_marks_right c_saved_visits c_sooner_of c_law_draw c_joined_visits c_plain_visits c_done_many c_turns_after c_plain_days c_marks_after c_next_due c_due_on c_plain_many c_marks_all c_stand_many c_all_due c_round_of c_law_any
noncomputable abbrev E15 : FS := b_law_right_15 c_law_are_marks_right c_saved_visits c_sooner_of c_law_draw c_joined_visits c_plain_visits c_done_many c_turns_after c_plain_days c_marks_after c_next_due c_due_on c_plain_many c_marks_all c_stand_many c_all_due c_round_of c_law_any
noncomputable abbrev E16 : FS := b_law_right_16 c_law_are_marks_right c_saved_visits c_sooner_of c_law_draw c_joined_visits c_plain_visits c_done_many c_turns_after c_plain_days c_marks_after c_next_due c_due_on c_plain_many c_marks_all c_stand_many c_all_due c_round_of c_law_any
noncomputable abbrev E17 : FS := b_law_right_17 c_law_are_marks_right c_saved_visits c_sooner_of c_law_draw c_joined_visits c_plain_visits c_done_many c_turns_after c_plain_days c_marks_after c_next_due c_due_on c_plain_many c_marks_all c_stand_many c_all_due c_round_of c_law_any
noncomputable abbrev E18 : FS := b_law_right_18 c_law_are_marks_right c_saved_visits c_sooner_of c_law_draw c_joined_visits c_plain_visits c_done_many c_turns_after c_plain_days c_marks_after c_next_due c_due_on c_plain_many c_marks_all c_stand_many c_all_due c_round_of c_law_any
noncomputable abbrev E19 : FS := b_law_right_19 c_law_are_marks_right c_saved_visits c_sooner_of c_law_draw c_joined_visits c_plain_visits c_done_many c_turns_after c_plain_days c_marks_after c_next_due c_due_on c_plain_many c_marks_all c_stand_many c_all_due c_round_of c_law_any
noncomputable abbrev E20 : FS := b_law_right_20 c_law_are_marks_right c_saved_visits c_sooner_of c_law_draw c_joined_visits c_plain_visits c_done_many c_turns_after c_plain_days c_marks_after c_next_due c_due_on c_plain_many c_marks_all c_stand_many c_all_due c_round_of c_law_any
variable {S : SE} {bs : List Int} {h : Hand} {n : Nat} {q0 q1 q3 q4 q5 q6 q7 q8 q9 q10 q11 q12 : Pd.Slot}
abbrev pickB (h : Hand) : Int := ([5, 12] : List Int).getD ((h.draw 2).1).toNat 0
theorem pickB_lim (h : Hand) : 5 ≤ pickB h ∧ pickB h ≤ 12 ∨ pickB h = 0 := by
  unfold pickB
  generalize ((h.draw 2).1).toNat = k
  match k with
  | 0 => exact Or.inl ⟨by decide, by decide⟩
  | 1 => exact Or.inl ⟨by decide, by decide⟩
  | k + 2 => exact Or.inr rfl
theorem pickB_ok {h : Hand} {m : Int} (o : h.Ok m) : 5 ≤ pickB h ∧ pickB h ≤ 12 := by
  obtain ⟨_, v0, v1⟩ := o.draw (many := 2) (by decide)
  have : ((h.draw 2).1).toNat < 2 := by omega
  unfold pickB
  generalize ((h.draw 2).1).toNat = k at *
  match k with
  | 0 => exact ⟨by decide, by decide⟩
  | 1 => exact ⟨by decide, by decide⟩
  | k + 2 => omega
def beltDraw : Nat → Hand → List Int × Hand
  | 0, h => ([], h)
  | k + 1, h => ((2 + ((h.draw 2).2.draw (pickB h)).1) :: (beltDraw k ((h.draw 2).2.draw (pickB h)).2).1, (beltDraw k ((h.draw 2).2.draw (pickB h)).2).2)
theorem beltDraw_spec : ∀ (k : Nat) (h : Hand) (m : Int), h.Ok m → (beltDraw k h).1.length = k ∧ (∀ b ∈ (beltDraw k h).1, 2 ≤ b ∧ b ≤ 13) ∧ (beltDraw k h).2.Ok (m + 2 * (k : Int))
  | 0, h, m, o => ⟨rfl, fun b hb => (nomatch hb), by simpa [beltDraw] using o⟩
  | k + 1, h, m, o => by
    obtain ⟨o1, v0, v1⟩ := o.draw (many := 2) (by decide)
    have p := pickB_ok o
    obtain ⟨o2, w0, w1⟩ := o1.draw (many := pickB h) (by omega)
    obtain ⟨z1, z2, z3⟩ := beltDraw_spec k _ _ o2
    refine ⟨by show (_ :: (beltDraw k _).1).length = _; rw [List.length_cons, z1], fun b hb => ?_, z3.mono (by omega)⟩
    rcases List.mem_cons.mp hb with rfl | hb
    · omega
    · exact z2 b hb
def beltOf (h : Hand) : List Int × Hand := beltDraw (1 + (h.draw 4).1).toNat (h.draw 4).2
noncomputable abbrev elBelt : FM := m2 gAdd (mP (eC (.int 2))) (mIo 2 0 c_law_draw (mhHole (maCons (mIo 2 0 c_law_any (mhHole (maCons (mP (eLst (aCons (eC (.int 5)) (aCons (eC (.int 12)) aNil)))) maNil))) maNil)))
theorem comp_belt {T : En} {j : Nat} (hT : T[j]? = some .no) : ∀ (is : List Int) (h : Hand) (m : Int), h.Ok m → m + 2 * (is.length : Int) ≤ 1000000 →
    compM [j + 1] (bbName (j + 1)) mTrue elBelt (is.map .int) (.io (handD h) :: T) = some ((beltDraw is.length h).1.map .int, .io (handD (beltDraw is.length h).2) :: T) := by
  intro is
  induction is with
  | nil => intro h n o _; rfl
  | cons b is ih =>
    intro h m o hn
    simp only [List.length_cons] at hn
    obtain ⟨o1, v0, v1⟩ := o.draw (many := 2) (by decide)
    have p := pickB_ok o
    obtain ⟨o2, w0, w1⟩ := o1.draw (many := pickB h) (by omega)
    have e := ih _ _ o2 (by omega)
    have an : c_law_any [handD h, .list [.int 5, .int 12]] = some (.int (pickB h), handD (h.draw 2).2) := q_law_any (xs := [5, 12]) (o.mono (by omega)) (by decide) (by decide)
    have dr := q_law_draw (h := (h.draw 2).2) (many := pickB h) (o1.mono (by omega)) (by omega) (by omega)
    rw [List.map_cons, compM_cons]
    simp only [elBelt, ev_bbname, List.getElem?_cons_succ, hT, ev_io3, if_true, List.set_cons_succ, ts_int, Option.bind_some, ev_mtrue, ev_m2, ev_mP, ev_c, Option.map_some, ev_mio, ev_mineAt0, ev_mine3, ev_mhhole, ev_macons, ev_lst, ev_acons, ev_anil, List.length_cons, List.length_nil, Nat.reduceLeDiff, ev_manil, List.nil_append, an, dr, ev_setm1, op_ii_add, List.length_set, ev_wipeS, ev_wipe0, List.set_set, set_same hT, e]
    simp [beltDraw]
theorem c0 {m : Int} (o : h.Ok m) (hm : m ≤ 900000) (hS : S.nx [.io (handD (beltOf h).2), .ow (tI (beltOf h).1), .no, .no, .no, .no, .no, .no, .no, .no, .no, .no, .no, .no, .no, .no, .no, .no, .no, .no, .no]) :
    C0 S [.io (handD h), .no, .no, .no, .no, .no, .no, .no, .no, .no, .no, .no, .no, .no, .no, .no, .no, .no, .no, .no, .no] := by
  obtain ⟨o1, v0, v1⟩ := o.draw (many := 4) (by decide)
  have dr := q_law_draw (h := h) (many := 4) (o.mono (by omega)) (by decide) (by decide)
  have rg := rg1_nat (n := (1 + (h.draw 4).1).toNat) (by omega)
  have ek : (((1 + (h.draw 4).1).toNat : Nat) : Int) = 1 + (h.draw 4).1 := by omega
  rw [ek] at rg
  have e := comp_belt (T := [.no, .no, .no, .no, .no, .no, .no, .no, .no, .no, .no, .no, .no, .no, .no, .no, .no, .no, .no, .no]) (j := 12) rfl ((List.range (1 + (h.draw 4).1).toNat).map fun i : Nat => (i : Int)) (h.draw 4).2 _ o1 (by simp; omega)
  rw [List.map_map, List.length_map, List.length_range] at e
  have e : compM [13] (bbName 13) mTrue elBelt ((List.range (1 + (h.draw 4).1).toNat).map fun i : Nat => PyData.int (i : Int)) (.io (handD (h.draw 4).2) :: [.no, .no, .no, .no, .no, .no, .no, .no, .no, .no, .no, .no, .no, .no, .no, .no, .no, .no, .no, .no]) = some ((beltOf h).1.map .int, .io (handD (beltOf h).2) :: [.no, .no, .no, .no, .no, .no, .no, .no, .no, .no, .no, .no, .no, .no, .no, .no, .no, .no, .no, .no]) := e
  have c1 : (1 + (h.draw 4).1).toNat ≤ cap := capL (by omega)
  have tp := gl_tupL (fz_ints (xs := (beltOf h).1))
  generalize beltOf h = dd at *
  simp [C0, m_law_right_0, dr, rg, wipeOk, wOk, c1]
  simp only [elBelt] at e
  rw [e]
  simp [backE, toBo, tp]
  exact hS
theorem c1 {m : Int} (hb : Belt bs) (o : h.Ok m) (hm : m ≤ 900000) (hS : S.nx [.io (handD (h.draw 200).2), .ow (tI bs), .ow (sv bs), .ow (.int (h.draw 200).1), .no, .no, .no, .no, .no, .no, .no, .no, .no, .no, .no, .no, .no, .no, .no, .no, .no]) :
    C1 S [.io (handD h), .ow (tI bs), .no, .no, .no, .no, .no, .no, .no, .no, .no, .no, .no, .no, .no, .no, .no, .no, .no, .no, .no] := by
  have hl := hb.len
  have dr := q_law_draw (h := h) (many := 200) (o.mono (by omega)) (by decide) (by decide)
  have k1 : bs.length ≤ cap := capL (by omega)
  have tp := gl_tupL (fz_sv (bs := bs))
  have lc : compL (bName 11) bTrue (eTup (aCons (eFrz (eVar 11)) (aCons (eC (.int 0)) aNil))) [.io (handD h), .ow (tI bs), .no, .no, .no, .no, .no, .no, .no, .no, .no, .no, .no, .no, .no, .no, .no, .no, .no, .no, .no] (bs.map PyData.int) = some (bs.map pr) := lcMap fun b _ => by simp
  simp only [tI] at lc
  simp [C1, m_law_right_1, k1, lc, tp, dr]
  exact hS
theorem c2 (hb : Belt bs) (hS : S.nx [q0, .ow (tI bs), .ow (sv bs), q3, .ow (.int (lcmL bs)), .no, .no, .no, .no, .no, .no, .no, .no, .no, .no, .no, .no, .no, .no, .no, .no]) :
    C2 S [q0, .ow (tI bs), .ow (sv bs), q3, .no, .no, .no, .no, .no, .no, .no, .no, .no, .no, .no, .no, .no, .no, .no, .no, .no] := by
  simp [C2, m_law_right_2, q_round_of hb]
  exact hS
theorem c3 (hb : Belt bs) (hn : n ≤ 400) (hS : S.nx [q0, .ow (tI bs), .ow (sv bs), .ow (.int (n : Int)), .ow (.int (lcmL bs)), .no, .no, .no, .no, .no, .no, .no, .no, .no, .no, .no, .no, .no, .no, .no, .no]) :
    C3 S [q0, .ow (tI bs), .ow (sv bs), .ow (.int (n : Int)), .ow (.int (lcmL bs)), .no, .no, .no, .no, .no, .no, .no, .no, .no, .no, .no, .no, .no, .no, .no, .no] := by
  have a := q_all_due hb
  have s := q_stand_many hb (show (0 : Int) ≤ (n : Int) by omega) (by omega)
  have d := op_ii_div (i := (n : Int)) hb.lcm_pos hb.sm
  simp only [tI, sv] at a s
  simp [C3, m_law_right_3, a, s, d]
  exact hS
theorem c4 (hb : Belt bs) (hn : n < 400) (hS : S.nx [q0, .ow (tI bs), .ow (sv bs), .ow (.int (n : Int)), q4, .ow (.list (rows bs (n + 1))), .no, .no, .no, .no, .no, .no, .no, .no, .no, .no, .no, .no, .no, .no, .no]) :
    C4 S [q0, .ow (tI bs), .ow (sv bs), .ow (.int (n : Int)), q4, .no, .no, .no, .no, .no, .no, .no, .no, .no, .no, .no, .no, .no, .no, .no, .no] := by
  have a := q_marks_all (n := n + 1) hb (by omega)
  have ec : (((n + 1 : Nat)) : Int) = (n : Int) + 1 := by omega
  rw [ec] at a
  simp only [tI] at a
  simp [C4, m_law_right_4, a]
  exact hS
theorem lc_zero {ε : En} (h15 : 15 < ε.length) (h16 : 16 < ε.length) : compL (bTup (bCons (bName 15) (bCons (bName 16) bNil))) (tst (e2 cmpEq (eVar 16) (eC (.int 0)))) (eFrz (eVar 15)) ε (bs.zipIdx.map fun p => .tuple [.int (p.2 : Int), .int (p.1 : Int)]) = some (((bs.zipIdx.filter fun p => decide (p.1 = 0)).map (·.2)).map fun i : Nat => PyData.int (i : Int)) := by
  rw [lcFilter (p := fun p : Int × Nat => decide (p.1 = 0)) (h := fun p => .int (p.2 : Int))]
  · simp
  · intro p _
    have g1 : ∀ d e : D, Pd.get ((ε.set 15 (.bo d)).set 16 (.bo e)) 16 = some e := fun d e => by
      unfold Pd.get
      rw [List.getElem?_set_self (by simpa using h16)]
      rfl
    have g2 : ∀ d e : D, Pd.get ((ε.set 15 (.bo d)).set 16 (.bo e)) 15 = some d := fun d e => by
      unfold Pd.get
      rw [List.getElem?_set_ne (by decide), List.getElem?_set_self h15]
      rfl
    simp [g1, g2]
    by_cases q : p.1 = 0 <;> simp [q]
theorem zero_due {d : Int} : (((after bs d).zipIdx.filter fun p => decide (p.1 = 0)).map (·.2)) = dueL bs d := by
  unfold after dueL
  rw [List.zipIdx_map, List.filter_map, List.map_map]
  rfl
theorem lc_zero' {d : Int} {ε : En} (h16 : 16 < ε.length) : compL (bTup (bCons (bName 15) (bCons (bName 16) bNil))) (tst (e2 cmpEq (eVar 16) (eC (.int 0)))) (eFrz (eVar 15)) ε ((after bs d).zipIdx.map fun p => .tuple [.int (p.2 : Int), .int (p.1 : Int)]) = some (nI (dueL bs d)) := by
  have e := lc_zero (bs := after bs d) (ε := ε) (by omega) h16
  rw [zero_due] at e
  exact e
def dueRows (bs : List Int) (k : Nat) : List D := (List.range k).map fun i : Nat => tN (dueL bs (i : Int))
theorem c5 (hb : Belt bs) (hn : n < 400) (hS : S.nx [q0, q1, .ow (sv bs), q3, q4, .ow (.list (rows bs (n + 1))), .ow (.list (dueRows bs (n + 1))), .no, .no, .no, .no, .no, .no, .no, .no, .no, .no, .no, .no, .no, .no]) :
    C5 S [q0, q1, .ow (sv bs), q3, q4, .ow (.list (rows bs (n + 1))), .no, .no, .no, .no, .no, .no, .no, .no, .no, .no, .no, .no, .no, .no, .no] := by
  have hl := hb.len
  have k1 : n + 1 ≤ cap := capL (by omega)
  have lc : ∀ ε : En, 16 < ε.length → compL (bName 14) bTrue (eCall gTupOf (aCons (eLc [15, 16] (iOf giEnum (aCons (eVar 14) aNil)) (bTup (bCons (bName 15) (bCons (bName 16) bNil))) (tst (e2 cmpEq (eVar 16) (eC (.int 0)))) (eFrz (eVar 15))) aNil)) ε (rows bs (n + 1)) = some (dueRows bs (n + 1)) := fun ε hε => by
    unfold rows dueRows
    refine lcMap fun i hi => ?_
    have g1 : Pd.get (ε.set 14 (.bo (tI (after bs (i : Int))))) 14 = some (tI (after bs (i : Int))) := by
      unfold Pd.get
      rw [List.getElem?_set_self (by omega)]
      rfl
    have al : (after bs (i : Int)).length ≤ cap := capL (by simp [after]; omega)
    have en := gi_enum (f := PyData.int) (xs := after bs (i : Int))
    have z := lc_zero' (bs := bs) (d := (i : Int)) (ε := ((ε.set 14 (.bo (tI (after bs (i : Int))))).set 16 .no).set 15 .no) (by simpa using hε)
    have tp : gTupOf [.list (nI (dueL bs (i : Int)))] = some (tN (dueL bs (i : Int))) := gl_tupL fz_nI
    simp only [ev_bname, Option.bind_some, ev_call, ev_acons, ev_anil, ev_lc, ev_iof, ev_var, g1, en, List.length_map, List.length_zipIdx, al, if_true, ev_wipeS, ev_wipe0, z, Option.map_some, tp]
  have lr : (rows bs (n + 1)).length = n + 1 := by simp [rows]
  simp [C5, m_law_right_5, lr, k1]
  rw [lc _ (by simp)]
  simp
  exact hS
theorem cn_tN {ws : List Nat} : cmpNe (tN ws) (.tuple []) = some (.bool (!decide (ws = []))) := by
  have e : tN ws = tI (ws.map fun i : Nat => (i : Int)) := by simp [tN, nI]
  rw [e]
  have : cmpNe (tI (ws.map fun i : Nat => (i : Int))) (.tuple (([] : List Int).map .int)) = _ := cn_tt
  rw [List.map_nil] at this
  rw [this]
  congr 3
  rw [decide_eq_decide, List.map_eq_nil_iff]
theorem due_nil {d : Int} : dueL bs d = [] ↔ ∀ b ∈ bs, d % b ≠ 0 := by
  unfold dueL
  rw [List.map_eq_nil_iff, List.filter_eq_nil_iff]
  constructor
  · intro h b hb z
    obtain ⟨i, hi, rfl⟩ := List.mem_iff_getElem.mp hb
    refine h (bs[i], i) ?_ (by simpa using z)
    rw [List.mem_zipIdx_iff_getElem?]
    exact List.getElem?_eq_getElem hi
  · intro h p hp
    have := h _ (zipIdx_mem1 hp)
    simpa using this
theorem visits_eq : visits bs n = ((List.range n).filter fun i : Nat => !decide (dueL bs (1 + (i : Int)) = [])).map fun i : Nat => 1 + (i : Int) := by
  unfold visits
  rw [List.filter_map]
  have e1 : ((List.range n).filter ((fun d => bs.any fun b => decide (d % b = 0)) ∘ fun i : Nat => (i : Int) + 1)) = (List.range n).filter fun i : Nat => !decide (dueL bs (1 + (i : Int)) = []) := by
    refine List.filter_congr fun i _ => ?_
    show (bs.any fun b => decide (((i : Int) + 1) % b = 0)) = _
    have ec : (i : Int) + 1 = 1 + (i : Int) := by omega
    rw [ec]
    by_cases z : dueL bs (1 + (i : Int)) = []
    · have h := due_nil.mp z
      rw [decide_eq_true z]
      refine List.any_eq_false.mpr fun b hb => ?_
      simpa using h b hb
    · rw [decide_eq_false z]
      refine List.any_eq_true.mpr ?_
      have : ¬ ∀ b ∈ bs, (1 + (i : Int)) % b ≠ 0 := fun h => z (due_nil.mpr h)
      simp only [Classical.not_forall, Decidable.not_not] at this
      obtain ⟨b, hb, h⟩ := this
      exact ⟨b, hb, by simpa using h⟩
  rw [e1]
  refine List.map_congr_left fun i _ => by omega
theorem lc_visits {s7 : Pd.Slot} {T : En} : compL (bName 7) (tst (e2 cmpNe (e2 gIx (eVar 6) (eVar 7)) (eTup aNil))) (eFrz (eVar 7)) (q0 :: q1 :: q3 :: q4 :: q5 :: q8 :: .ow (.list (dueRows bs (n + 1))) :: s7 :: T) ((List.range n).map fun i : Nat => PyData.int (1 + (i : Int))) = some ((visits bs n).map .int) := by
  rw [lcFilter (p := fun i : Nat => !decide (dueL bs (1 + (i : Int)) = [])) (h := fun i : Nat => .int (1 + (i : Int)))]
  · rw [visits_eq, List.map_map]
    rfl
  · intro i hi
    have hi := List.mem_range.mp hi
    have e1 : gIx (.list (dueRows bs (n + 1))) (.int (1 + (i : Int))) = some (tN (dueL bs (1 + (i : Int)))) := by
      have ec : (1 + (i : Int)) = ((1 + i : Nat) : Int) := by omega
      rw [ec]
      exact ix_lm (f := fun i : Nat => tN (dueL bs (i : Int))) (List.getElem?_range (by omega))
    simp only [ev_bname, List.set_cons_succ, List.set_cons_zero, Option.bind_some, ev_tst, ev_e2, ev_tup, ev_anil, List.length_nil, Nat.zero_le, if_true, ev_var, ev_getS, ev_get0, ev_val1, ev_val2, e1, cn_tN, ev_toB, ev_frz, fz_int, Option.map_some]
    by_cases z : dueL bs (1 + (i : Int)) = [] <;> simp [z]
theorem rg_days : giRg2 [.int 1, .int ((n : Int) + 1)] = (if n ≤ 400 then some ((List.range n).map fun i : Nat => PyData.int (1 + (i : Int))) else giRg2 [.int 1, .int ((n : Int) + 1)]) := by
  split
  · rename_i h
    rw [rg2_of (by decide) (by decide) (by omega) (by omega)]
    have : ((n : Int) + 1 - 1).toNat = n := by omega
    rw [this]
  · rfl
theorem c6 (hb : Belt bs) (hn : n < 400) (hS : S.nx [q0, q1, .ow (sv bs), .ow (.int (n : Int)), q4, q5, .ow (.list (dueRows bs (n + 1))), .no, .no, .no, .no, .no, .no, .no, .no, .no, .no, .no, .no, .no, .no]) :
    C6 S [q0, q1, .ow (sv bs), .ow (.int (n : Int)), q4, q5, .ow (.list (dueRows bs (n + 1))), .no, .no, .no, .no, .no, .no, .no, .no, .no, .no, .no, .no, .no, .no] := by
  have rg := rg_days (n := n)
  rw [if_pos (by omega)] at rg
  have k1 : n ≤ cap := capL (by omega)
  have p := q_plain_visits hb (show n ≤ 1000 by omega)
  have tp := gl_tupL (fz_ints (xs := visits bs n))
  simp only [tI, sv] at p
  simp [C6, m_law_right_6, rg, k1, p]
  rw [lc_visits]
  simp [tp]
  exact hS
theorem c7 (hb : Belt bs) (hn : n < 400) (hS : S.nx [q0, q1, .ow (sv bs), .ow (.int (n : Int)), q4, q5, .ow (.list (dueRows bs (n + 1))), .no, .no, .no, .no, .no, .no, .no, .no, .no, .no, .no, .no, .no, .no]) :
    C7 S [q0, q1, .ow (sv bs), .ow (.int (n : Int)), q4, q5, .ow (.list (dueRows bs (n + 1))), .no, .no, .no, .no, .no, .no, .no, .no, .no, .no, .no, .no, .no, .no] := by
  have rg := rg_days (n := n)
  rw [if_pos (by omega)] at rg
  have k1 : n ≤ cap := capL (by omega)
  have p := q_plain_many hb (show n ≤ 1000 by omega)
  simp only [sv] at p
  simp [C7, m_law_right_7, rg, k1, p]
  rw [lc_visits]
  simp
  exact hS
theorem c8 {m : Int} (o : h.Ok m) (hm : m ≤ 900000) (hS : S.nx [.io (handD (h.draw 900).2), q1, .ow (sv bs), q3, q4, q5, q6, .ow (.int (1 + (h.draw 900).1)), .no, .no, .no, .no, .no, .no, .no, .no, .no, .no, .no, .no, .no]) :
    C8 S [.io (handD h), q1, .ow (sv bs), q3, q4, q5, q6, .no, .no, .no, .no, .no, .no, .no, .no, .no, .no, .no, .no, .no, .no] := by
  have dr := q_law_draw (h := h) (many := 900) (o.mono (by omega)) (by decide) (by decide)
  simp [C8, m_law_right_8, dr]
  exact hS
noncomputable abbrev eDue (k : Nat) : FE := eCall gTupOf (aCons (eLc [15, 16] (iOf giEnum (aCons (eFn 2 c_marks_after (aCons (eVar 1) (aCons (eVar k) aNil))) aNil)) (bTup (bCons (bName 15) (bCons (bName 16) bNil))) (tst (e2 cmpEq (eVar 16) (eC (.int 0)))) (eFrz (eVar 15))) aNil)
theorem ev_eDue {k : Nat} {ε : En} {d : Int} (g1 : Pd.get ε 1 = some (tI bs)) (gk : Pd.get ε k = some (.int d)) (hlen : 16 < ε.length) (hb : Belt bs) (h0 : 0 ≤ d) (h1 : d ≤ 100000000000000000000) : eDue k ε = some (tN (dueL bs d)) := by
  have hl := hb.len
  have al : (after bs d).length ≤ cap := capL (by simp [after]; omega)
  have en := gi_enum (f := PyData.int) (xs := after bs d)
  have z := lc_zero' (bs := bs) (d := d) (ε := (ε.set 16 .no).set 15 .no) (by simpa using hlen)
  have tp : gTupOf [.list (nI (dueL bs d))] = some (tN (dueL bs d)) := gl_tupL fz_nI
  have q := q_marks_after hb h0 h1
  simp only [eDue, ev_call, ev_acons, ev_anil, ev_lc, ev_iof, ev_fn, ev_var, g1, gk, Option.bind_some, List.length_cons, List.length_nil, if_true, q, en, List.length_map, List.length_zipIdx, al, ev_wipeS, ev_wipe0, z, Option.map_some, tp]
theorem cn_tNN {ws : List Nat} : cmpNe (tN ws) (tN ws) = some (.bool false) := by
  have e : tN ws = tI (ws.map fun i : Nat => (i : Int)) := by simp [tN, nI]
  rw [e]
  have : cmpNe (tI (ws.map fun i : Nat => (i : Int))) (tI (ws.map fun i : Nat => (i : Int))) = _ := cn_tt
  rw [this]
  simp
abbrev RT : FS := sRet (mP (eC (.bool false)))
theorem c9 {d : Int} {s6 : Pd.Slot} (hb : Belt bs) (h0 : 1 ≤ d) (h1 : d ≤ 1000) (hS : S.nx [q0, .ow (tI bs), .ow (sv bs), q3, q4, q5, s6, .ow (.int d), .no, .no, .no, .no, .no, .no, .no, .no, .no, .no, .no, .no, .no]) :
    C9 S [q0, .ow (tI bs), .ow (sv bs), q3, q4, q5, s6, .ow (.int d), .no, .no, .no, .no, .no, .no, .no, .no, .no, .no, .no, .no, .no] := by
  have q := q_due_on hb h0 h1
  have e := ev_eDue (bs := bs) (k := 7) (ε := [q0, .ow (tI bs), .ow (sv bs), q3, q4, q5, s6, .ow (.int d), .no, .no, .no, .no, .no, .no, .no, .no, .no, .no, .no, .no, .no]) rfl rfl (by simp) hb (show 0 ≤ d by omega) (by omega)
  show sIf (mT (tst (e2 cmpNe (eFn 2 c_due_on (aCons (eVar 2) (aCons (eVar 7) aNil))) (eDue 7)))) RT sNext S _
  simp only [ev_if, ev_mT, ev_tst, ev_e2, ev_fn, ev_acons, ev_anil, ev_var, ev_getS, ev_get0, ev_val1, Option.bind_some, List.length_cons, List.length_nil, if_true, q, e, cn_tNN, ev_toB, Option.map_some, ev_os, Bool.false_eq_true, if_false, ev_next]
  exact hS
theorem fz_tN {ws : List Nat} : frozen (tN ws) = true := by simp
theorem c10 {d : Int} {s6 : Pd.Slot} (hb : Belt bs) (h0 : 1 ≤ d) (h1 : d ≤ 1000) (hS : S.nx [q0, .ow (tI bs), .ow (sv bs), q3, q4, q5, s6, .ow (.int d), .ow (.int (laterV bs d)), .ow (tN (dueL bs (laterV bs d))), .no, .no, .no, .no, .no, .no, .no, .no, .no, .no, .no]) :
    C10 S [q0, .ow (tI bs), .ow (sv bs), q3, q4, q5, s6, .ow (.int d), .no, .no, .no, .no, .no, .no, .no, .no, .no, .no, .no, .no, .no] := by
  have q := q_next_due hb (show 0 ≤ d by omega) h1
  simp only [C10, m_law_right_10, ev_asg, ev_mP, ev_fn, ev_acons, ev_anil, ev_var, ev_getS, ev_get0, ev_val1, Option.bind_some, List.length_cons, List.length_nil, if_true, q, Option.map_some, ev_os, ev_btup, ev_bcons, ev_bnil, ev_mbname, List.getElem?_cons_succ, List.getElem?_cons_zero, ev_io3, List.set_cons_succ, List.set_cons_zero]
  exact hS
theorem later_lim {d : Int} (hb : Belt bs) (h0 : 0 ≤ d) : d < laterV bs d ∧ laterV bs d ≤ d + 400 ∧ dueL bs (laterV bs d) ≠ [] := by
  have hne : bs ≠ [] := fun z => by have := hb.ne; simp [z] at this
  obtain ⟨b, hb', e⟩ := later_at (c := d) hne
  have hp := hb.lim b hb'
  refine ⟨later_gt hne hb.pos, ?_, fun z => ?_⟩
  · rw [e, Int.add_mul]
    have := Int.ediv_mul_le d (show b ≠ 0 by omega)
    omega
  · refine due_nil.mp z b hb' ?_
    rw [e]
    exact Int.mul_emod_left _ _
theorem c11 {d : Int} {s6 : Pd.Slot} (hb : Belt bs) (h0 : 1 ≤ d) (h1 : d ≤ 1000) (hS : S.nx [q0, .ow (tI bs), .ow (sv bs), q3, q4, q5, s6, .ow (.int d), .ow (.int (laterV bs d)), .ow (tN (dueL bs (laterV bs d))), .no, .no, .no, .no, .no, .no, .no, .no, .no, .no, .no]) :
    C11 S [q0, .ow (tI bs), .ow (sv bs), q3, q4, q5, s6, .ow (.int d), .ow (.int (laterV bs d)), .ow (tN (dueL bs (laterV bs d))), .no, .no, .no, .no, .no, .no, .no, .no, .no, .no, .no] := by
  obtain ⟨l1, l2, l3⟩ := later_lim hb (show 0 ≤ d by omega)
  have e := ev_eDue (bs := bs) (k := 8) (ε := [q0, .ow (tI bs), .ow (sv bs), q3, q4, q5, s6, .ow (.int d), .ow (.int (laterV bs d)), .ow (tN (dueL bs (laterV bs d))), .no, .no, .no, .no, .no, .no, .no, .no, .no, .no, .no]) (d := laterV bs d) rfl rfl (by simp) hb (by omega) (by omega)
  have c : cmpEq (tN (dueL bs (laterV bs d))) (.tuple []) = some (.bool false) := by rw [cq_tN, decide_eq_false l3]
  show sIf (mT (bOr (tst (e2 cmpNe (eVar 9) (eDue 8))) (tst (e2 cmpEq (eVar 9) (eTup aNil))))) RT sNext S _
  simp only [ev_if, ev_mT, ev_bor, ev_tst, ev_e2, ev_tup, ev_anil, ev_var, ev_getS, ev_get0, ev_val1, Option.bind_some, List.length_nil, Nat.zero_le, if_true, e, c, cn_tNN, ev_toB, Option.map_some, ev_os, Bool.false_eq_true, if_false, ev_next]
  exact hS
theorem not_zero {x : Int} (h : ∀ b ∈ bs, x % b ≠ 0) : ¬ (0 : Int) ∈ after bs x := fun z => by
  obtain ⟨b, hb, e⟩ := List.mem_map.mp z
  exact h b hb e
theorem c12 {d : Int} {s6 s9 : Pd.Slot} (hb : Belt bs) (h0 : 1 ≤ d) (h1 : d ≤ 1000) (hS : S.nx [q0, .ow (tI bs), .ow (sv bs), q3, q4, q5, s6, .ow (.int d), .ow (.int (laterV bs d)), s9, .no, .no, .no, .no, .no, .no, .no, .no, .no, .no, .no]) :
    C12 S [q0, .ow (tI bs), .ow (sv bs), q3, q4, q5, s6, .ow (.int d), .ow (.int (laterV bs d)), s9, .no, .no, .no, .no, .no, .no, .no, .no, .no, .no, .no] := by
  obtain ⟨l1, l2, l3⟩ := later_lim hb (show 0 ≤ d by omega)
  have rg := rg2_of (a := d + 1) (b := laterV bs d) (by omega) (by omega) (by omega) (by omega)
  have k1 : (laterV bs d - (d + 1)).toNat ≤ cap := capL (by omega)
  have lc : ∀ ε : En, Pd.get ε 1 = some (tI bs) → 17 < ε.length → compL (bName 17) bTrue (e2 cmpIn (eC (.int 0)) (eFn 2 c_marks_after (aCons (eVar 1) (aCons (eVar 17) aNil)))) ε ((List.range (laterV bs d - (d + 1)).toNat).map fun i : Nat => PyData.int (d + 1 + (i : Int))) = some ((List.range (laterV bs d - (d + 1)).toNat).map fun _ => .bool false) := fun ε g1 hε => by
    refine lcMap fun i hi => ?_
    have hi := List.mem_range.mp hi
    have g2 : Pd.get (ε.set 17 (.bo (.int (d + 1 + (i : Int))))) 17 = some (.int (d + 1 + (i : Int))) := by
      unfold Pd.get
      rw [List.getElem?_set_self hε]
      rfl
    have g3 : Pd.get (ε.set 17 (.bo (.int (d + 1 + (i : Int))))) 1 = some (tI bs) := by
      unfold Pd.get at g1 ⊢
      rw [List.getElem?_set_ne (by decide)]
      exact g1
    have q := q_marks_after hb (show 0 ≤ d + 1 + (i : Int) by omega) (by omega)
    have nb := none_between (d := d + 1 + (i : Int)) hb.pos (show d < d + 1 + (i : Int) by omega) (by omega)
    rw [List.any_eq_false] at nb
    have nz : ¬ (0 : Int) ∈ after bs (d + 1 + (i : Int)) := not_zero fun b hb' z => nb b hb' (by simpa using z)
    simp only [ev_bname, Option.bind_some, ev_e2, ev_c, ev_fn, ev_acons, ev_anil, ev_var, g2, g3, List.length_cons, List.length_nil, if_true, q, ci_it, decide_eq_false nz]
  have ga : gAny [.list ((List.range (laterV bs d - (d + 1)).toNat).map fun _ => .bool false)] = some (.bool false) := by
    rw [gl_any' (p := fun _ => false)]
    simp
  simp only [C12, m_law_right_12, ev_if, ev_mT, ev_tst, ev_call, ev_acons, ev_anil, ev_lc, ev_iof, ev_e2, ev_c, ev_var, ev_getS, ev_get0, ev_val1, Option.bind_some, op_ii_add, rg, List.length_map, List.length_range, k1, if_true, ev_wipeS, ev_wipe0, List.set_cons_succ, List.set_cons_zero]
  rw [lc _ rfl (by simp)]
  simp only [Option.map_some, Option.bind_some, ga, ev_toB, ev_os, Bool.false_eq_true, if_false, ev_next]
  exact hS
theorem lc_turns {m : Int} {ε : En} (h19 : 19 < ε.length) : compL (bTup (bCons (bName 18) (bCons (bName 19) bNil))) bTrue (eFrz (eVar 18)) ε (turns bs m) = some ((doneL bs m).map .int) := by
  unfold turns
  rw [lcMap (h := fun b => .int (m / b))]
  · simp [doneL]
  · intro b _
    have g2 : ∀ d e : D, Pd.get ((ε.set 18 (.bo d)).set 19 (.bo e)) 18 = some d := fun d e => by
      unfold Pd.get
      rw [List.getElem?_set_ne (by decide), List.getElem?_set_self (by omega)]
      rfl
    simp [g2]
theorem mults_len {b m : Int} (hb : 0 < b) (hm : 0 ≤ m) : ((mults b m).length : Int) = m / b := by
  unfold mults
  have := Int.ediv_nonneg hm (show 0 ≤ b by omega)
  simp
  omega
theorem c13 {s6 s7 s8 s9 : Pd.Slot} (hb : Belt bs) (hn : n ≤ 400) (hS : S.nx [q0, .ow (tI bs), .ow (sv bs), .ow (.int (n : Int)), q4, q5, s6, s7, s8, s9, .no, .no, .no, .no, .no, .no, .no, .no, .no, .no, .no]) :
    C13 S [q0, .ow (tI bs), .ow (sv bs), .ow (.int (n : Int)), q4, q5, s6, s7, s8, s9, .no, .no, .no, .no, .no, .no, .no, .no, .no, .no, .no] := by
  have hl := hb.len
  have p := q_plain_days hb (show (0 : Int) ≤ (n : Int) by omega) (by omega)
  have t := q_turns_after hb (show (0 : Int) ≤ (n : Int) by omega) (by omega)
  have lt : (turns bs (n : Int)).length = bs.length := by simp [turns]
  have k1 : bs.length ≤ cap := capL (by omega)
  have lc : ∀ ε : En, 14 < ε.length → compL (bName 14) bTrue (eCall gLen (aCons (eVar 14) aNil)) ε (bs.map fun b => tI (mults b (n : Int))) = some ((doneL bs (n : Int)).map .int) := fun ε hε => by
    rw [lcMap (h := fun b => .int ((n : Int) / b))]
    · simp [doneL]
    · intro b hb'
      have g2 : Pd.get (ε.set 14 (.bo (tI (mults b (n : Int))))) 14 = some (tI (mults b (n : Int))) := by
        unfold Pd.get
        rw [List.getElem?_set_self hε]
        rfl
      have ml := mults_len (m := (n : Int)) (hb.pos b hb') (by omega)
      simp only [ev_bname, Option.bind_some, ev_call, ev_acons, ev_anil, ev_var, g2, ln_t, List.length_map, ml]
  simp only [C13, m_law_right_13, ev_if, ev_mT, ev_tst, ev_call, ev_acons, ev_anil, ev_lc, ev_iself, ev_e2, ev_fn, ev_var, ev_getS, ev_get0, ev_val1, Option.bind_some, List.length_cons, List.length_nil, if_true, p, t, it_t, List.length_map, lt, k1, ev_wipeS, ev_wipe0, List.set_cons_succ, List.set_cons_zero]
  rw [lc _ (by simp), lc_turns (by simp)]
  simp only [Option.map_some, Option.bind_some, cn_ll, decide_true, Bool.not_true, ev_toB, ev_os, Bool.false_eq_true, if_false, ev_next]
  exact hS
theorem c14 {s6 s7 s8 s9 : Pd.Slot} (hb : Belt bs) (hn : n ≤ 400) (hS : S.nx [q0, .ow (tI bs), .ow (sv bs), .ow (.int (n : Int)), q4, q5, s6, s7, s8, s9, .no, .no, .no, .no, .no, .no, .no, .no, .no, .no, .no]) :
    C14 S [q0, .ow (tI bs), .ow (sv bs), .ow (.int (n : Int)), q4, q5, s6, s7, s8, s9, .no, .no, .no, .no, .no, .no, .no, .no, .no, .no, .no] := by
  have hl := hb.len
  have p := q_done_many hb (show n ≤ 1000 by omega)
  have t := q_turns_after hb (show (0 : Int) ≤ (n : Int) by omega) (by omega)
  have lt : (turns bs (n : Int)).length = bs.length := by simp [turns]
  have k1 : bs.length ≤ cap := capL (by omega)
  have tp := gl_tupL (fz_ints (xs := doneL bs (n : Int)))
  simp only [C14, m_law_right_14, ev_if, ev_mT, ev_tst, ev_call, ev_acons, ev_anil, ev_lc, ev_iself, ev_e2, ev_fn, ev_var, ev_getS, ev_get0, ev_val1, Option.bind_some, List.length_cons, List.length_nil, if_true, p, t, it_t, lt, k1, ev_wipeS, ev_wipe0, List.set_cons_succ, List.set_cons_zero]
  rw [lc_turns (by simp)]
  simp only [Option.map_some, Option.bind_some, tp, cn_tt, decide_true, Bool.not_true, ev_toB, ev_os, Bool.false_eq_true, if_false, ev_next]
  exact hS
theorem c15 {s6 s7 s8 s9 : Pd.Slot} (hb : Belt bs) (hn : n ≤ 400) (hS : S.nx [q0, .ow (tI bs), .ow (sv bs), .ow (.int (n : Int)), q4, q5, s6, s7, s8, s9, .no, .no, .no, .no, .no, .no, .no, .no, .no, .no, .no]) :
    C15 S [q0, .ow (tI bs), .ow (sv bs), .ow (.int (n : Int)), q4, q5, s6, s7, s8, s9, .no, .no, .no, .no, .no, .no, .no, .no, .no, .no, .no] := by
  have hl := hb.len
  have p := q_plain_visits hb (show n ≤ 1000 by omega)
  have t := q_joined_visits hb (show n ≤ 1000 by omega)
  have lr : (rowsJ bs n).length = (visits bs n).length := by simp [rowsJ]
  have vl := visits_le (bs := bs) (n := n)
  have k1 : (visits bs n).length ≤ cap := capL (by omega)
  have tp := gl_tupL (fz_ints (xs := visits bs n))
  have lc : ∀ ε : En, 20 < ε.length → compL (bName 20) bTrue (eFrz (e2 gIx (eVar 20) (eC (.int 0)))) ε (rowsJ bs n) = some ((visits bs n).map .int) := fun ε hε => by
    unfold rowsJ
    rw [lcMap (h := fun d => .int d)]
    intro d _
    have g2 : ∀ e : D, Pd.get (ε.set 20 (.bo e)) 20 = some e := fun e => by
      unfold Pd.get
      rw [List.getElem?_set_self hε]
      rfl
    simp [g2]
  simp only [C15, m_law_right_15, ev_if, ev_mT, ev_tst, ev_call, ev_acons, ev_anil, ev_lc, ev_iself, ev_e2, ev_fn, ev_var, ev_getS, ev_get0, ev_val1, Option.bind_some, List.length_cons, List.length_nil, if_true, p, t, it_t, lr, k1, ev_wipeS, ev_wipe0, List.set_cons_succ, List.set_cons_zero]
  rw [lc _ (by simp)]
  simp only [Option.map_some, Option.bind_some, tp, cn_tt, decide_true, Bool.not_true, ev_toB, ev_os, Bool.false_eq_true, if_false, ev_next]
  exact hS
theorem c16 {m : Int} {s6 s7 s8 s9 : Pd.Slot} (o : h.Ok m) (hm : m ≤ 900000) (hS : S.nx [.io (handD (h.draw 1001).2), q1, q3, q4, q5, q6, s6, s7, s8, s9, .ow (.int (h.draw 1001).1), .no, .no, .no, .no, .no, .no, .no, .no, .no, .no]) :
    C16 S [.io (handD h), q1, q3, q4, q5, q6, s6, s7, s8, s9, .no, .no, .no, .no, .no, .no, .no, .no, .no, .no, .no] := by
  have dr := q_law_draw (h := h) (many := 1001) (o.mono (by omega)) (by decide) (by decide)
  simp [C16, m_law_right_16, dr]
  exact hS
theorem c17 {s7 s8 s9 s10 : Pd.Slot} (hS : S.nx [q0, q1, q3, q4, q5, q6, .ow (.list []), s7, s8, s9, s10, .no, .no, .no, .no, .no, .no, .no, .no, .no, .no]) :
    C17 S [q0, q1, q3, q4, q5, q6, .ow (.list (dueRows bs (n + 1))), s7, s8, s9, s10, .no, .no, .no, .no, .no, .no, .no, .no, .no, .no] := by
  simp [C17, m_law_right_17]
  exact hS
def goneL (b far : Int) : List Int := ((List.range b.toNat).filter fun i : Nat => decide (100 * b ≤ (1 + (i : Int)) * far)).map fun i : Nat => 1 + (i : Int)
theorem gone_head {b far : Int} (hb : 0 < b) (h0 : 0 ≤ far) : (goneL b far).headD b = min b (byWay b far) := by
  unfold goneL byWay
  by_cases hf : 0 < far
  · rw [if_pos hf]
    have key : ∀ x : Int, 100 * b ≤ x * far ↔ -(-100 * b / far) ≤ x := fun x => by
      have h1 : -x ≤ -100 * b / far ↔ -x * far ≤ -100 * b := Int.le_ediv_iff_mul_le hf
      have h2 : -x * far = -(x * far) := Int.neg_mul x far
      generalize -100 * b / far = q at *
      constructor
      · intro h
        have := h1.mpr (by omega)
        omega
      · intro h
        have := h1.mp (by omega)
        omega
    generalize -(-100 * b / far) = c at *
    have c1 : 1 ≤ c := by
      rcases Int.lt_or_le 0 c with h | h
      · omega
      · have := (key 0).mpr h
        omega
    rw [List.filter_congr (q := fun i : Nat => decide (c ≤ 1 + (i : Int))) (fun i _ => by
      rw [decide_eq_decide]
      exact key _)]
    by_cases hc : c ≤ b
    · have hh : ((List.range b.toNat).filter fun i : Nat => decide (c ≤ 1 + (i : Int))).head? = some (c - 1).toNat := by
        rw [List.head?_filter, List.find?_range_eq_some]
        refine ⟨by simp; omega, List.mem_range.mpr (by omega), fun j hj => by simp; omega⟩
      rw [List.headD_eq_head?_getD, List.head?_map, hh]
      show 1 + (((c - 1).toNat : Nat) : Int) = _
      omega
    · have hn : ((List.range b.toNat).filter fun i : Nat => decide (c ≤ 1 + (i : Int))) = [] := by
        rw [List.filter_eq_nil_iff]
        intro i hi
        have := List.mem_range.mp hi
        simp
        omega
      rw [hn]
      show b = _
      omega
  · rw [if_neg hf]
    have e : far = 0 := by omega
    have hn : ((List.range b.toNat).filter fun i : Nat => decide (100 * b ≤ (1 + (i : Int)) * far)) = [] := by
      rw [List.filter_eq_nil_iff]
      intro i hi
      rw [e]
      simp
      omega
    rw [hn]
    show b = _
    omega
abbrev bodyGone : FS := (sSeq (sSet 12 (mP (eLc [7] (iOf giRg2 (aCons (eC (.int 1)) (aCons (e2 gAdd (eVar 11) (eC (.int 1))) aNil))) (bName 7) (tst (e2 cmpGe (e2 gMul (eVar 7) (eVar 10)) (e2 gMul (eC (.int 100)) (eVar 11)))) (eFrz (eVar 7)))))
  (sExpr (mApp 6 (mP (eFrz (eIf (tst (e2 cmpNe (eVar 12) (eLst aNil))) (e2 gIx (eVar 12) (eC (.int 0))) (eVar 11)))))))
theorem lc_gone {b far : Int} {s0 s1 s2 s3 s4 s5 s6 s7 s8 s9 s12 : Pd.Slot} {T : En} (hb : 0 < b ∧ b ≤ 400) (h0 : 0 ≤ far) (h1 : far ≤ 1000) : compL (bName 7) (tst (e2 cmpGe (e2 gMul (eVar 7) (eVar 10)) (e2 gMul (eC (.int 100)) (eVar 11)))) (eFrz (eVar 7)) (s0 :: s1 :: s2 :: s3 :: s4 :: s5 :: s6 :: s7 :: s8 :: s9 :: .ow (.int far) :: .ow (.int b) :: s12 :: T) ((List.range b.toNat).map fun i : Nat => PyData.int (1 + (i : Int))) = some ((goneL b far).map .int) := by
  rw [lcFilter (p := fun i : Nat => decide (100 * b ≤ (1 + (i : Int)) * far)) (h := fun i : Nat => .int (1 + (i : Int)))]
  · simp [goneL]
  · intro i hi
    have hi := List.mem_range.mp hi
    have m1 := op_ii_mul (sm_small (show -(10 ^ 100) ≤ 1 + (i : Int) by omega) (by omega)) (sm_small (show -(10 ^ 100) ≤ far by omega) (by omega))
    have m2 := op_ii_mul (sm_small (show -(10 ^ 100) ≤ (100 : Int) by decide) (by decide)) (sm_small (show -(10 ^ 100) ≤ b by omega) (by omega))
    simp only [ev_bname, List.set_cons_succ, List.set_cons_zero, Option.bind_some, ev_tst, ev_e2, ev_c, ev_var, ev_getS, ev_get0, ev_val1, ev_val2, m1, m2, cge_ii, ev_toB, ev_frz, fz_int, if_true, Option.map_some]
    by_cases z : 100 * b ≤ (1 + (i : Int)) * far <;> simp [z]
theorem fm_gone {s0 s1 s2 s3 s4 s5 s7 s8 s9 : Pd.Slot} {T : En} {far : Int} (h0 : 0 ≤ far) (h1 : far ≤ 1000) : ∀ (bs done : List Int) (s11 s12 : Pd.Slot), notIo (some s11) = true → notIo (some s12) = true → (∀ b ∈ bs, 0 < b ∧ b ≤ 400) → bs.length + done.length ≤ 100 → (∀ s11 s12, S.nx (s0 :: s1 :: s2 :: s3 :: s4 :: s5 :: .ow (.list ((done ++ soonL bs far).map .int)) :: s7 :: s8 :: s9 :: .ow (.int far) :: s11 :: s12 :: T)) →
    forM (bbName 11) bodyGone (bs.map PyData.int) S (s0 :: s1 :: s2 :: s3 :: s4 :: s5 :: .ow (.list (done.map .int)) :: s7 :: s8 :: s9 :: .ow (.int far) :: s11 :: s12 :: T) := by
  intro bs
  induction bs with
  | nil =>
    intro done s11 s12 _ _ _ _ h
    have := h s11 s12
    simp [soonL] at this
    simpa using this
  | cons b bs ih =>
    intro done s11 s12 h11 h12 hb hl h
    have q := hb b List.mem_cons_self
    simp only [List.length_cons] at hl
    have ih2 := ih (done ++ [min b (byWay b far)]) (.ow (.int b)) (.ow (.list ((goneL b far).map .int))) rfl rfl (fun x hx => hb x (List.mem_cons_of_mem _ hx)) (by simp; omega) (by
      intro s11 s12
      have := h s11 s12
      rw [List.append_assoc]
      exact this)
    have ga : gApp (.list (done.map .int)) (.int (min b (byWay b far))) = some (.list ((done ++ [min b (byWay b far)]).map .int)) := by
      refine (if_pos ?_).trans (by simp)
      exact capL (by simp; omega)
    have gh := gone_head q.1 h0
    have rg := rg2_of (a := 1) (b := b + 1) (by decide) (by decide) (by omega) (by omega)
    have eb : (b + 1 - 1).toNat = b.toNat := by congr 1; omega
    rw [eb] at rg
    have k1 : b.toNat ≤ cap := capL (by omega)
    have val : (eFrz (eIf (tst (e2 cmpNe (eVar 12) (eLst aNil))) (e2 gIx (eVar 12) (eC (.int 0))) (eVar 11))) (s0 :: s1 :: s2 :: s3 :: s4 :: s5 :: .ow (.list (done.map .int)) :: s7 :: s8 :: s9 :: .ow (.int far) :: .ow (.int b) :: .ow (.list ((goneL b far).map .int)) :: T) = some (.int (min b (byWay b far))) := by
      rw [← gh]
      cases z : goneL b far with
      | nil =>
        simp only [ev_frz, ev_eif, ev_tst, ev_e2, ev_lst, ev_anil, ev_var, ev_getS, ev_get0, ev_val1, Option.bind_some, List.length_nil, Nat.zero_le, if_true, cn_l0, decide_true, Bool.not_true, ev_toB, Bool.false_eq_true, if_false, fz_int, List.headD_nil]
      | cons x xs =>
        have cnx : cmpNe (.list (PyData.int x :: List.map PyData.int xs)) (.list []) = some (.bool true) := by
          have := cn_l0 (xs := x :: xs)
          simpa using this
        simp only [ev_frz, ev_eif, ev_tst, ev_e2, ev_c, ev_lst, ev_anil, ev_var, ev_getS, ev_get0, ev_val1, Option.bind_some, List.length_nil, Nat.zero_le, if_true, cn_l0, reduceCtorEq, decide_false, Bool.not_false, ev_toB, ix_l0, fz_int, List.headD_cons, cnx, List.map_cons]
    rw [List.map_cons, ev_fcons]
    simp only [ev_bbname, List.getElem?_cons_succ, List.getElem?_cons_zero, h11, if_true, ev_os, List.set_cons_succ, List.set_cons_zero, ts_int, ev_seq, ev_set, ev_mP, ev_lc, ev_iof, ev_acons, ev_anil, ev_e2, ev_c, ev_var, ev_getS, ev_get0, ev_val1, Option.bind_some, op_ii_add, rg, List.length_map, List.length_range, k1, ev_wipeS, ev_wipe0, lc_gone q h0 h1, Option.map_some, h12, true_and, ev_expr, ev_mapp, ev_mineAtS, ev_mineAt0, ev_mine1]
    rw [val]
    simp [isLst, ga]
    simpa using ih2
theorem c18 {far : Int} {s7 s8 s9 : Pd.Slot} (hb : Belt bs) (h0 : 0 ≤ far) (h1 : far ≤ 1000) (hS : ∀ s11 s12, S.nx [q0, .ow (tI bs), .ow (sv bs), q3, q4, q5, .ow (.list ((soonL bs far).map .int)), s7, s8, s9, .ow (.int far), s11, s12, .no, .no, .no, .no, .no, .no, .no, .no]) :
    C18 S [q0, .ow (tI bs), .ow (sv bs), q3, q4, q5, .ow (.list []), s7, s8, s9, .ow (.int far), .no, .no, .no, .no, .no, .no, .no, .no, .no, .no] := by
  have hl := hb.len
  simp only [C18, m_law_right_18, ev_for, ev_miself, ev_lendS, ev_lend0, fz_tup, fz_ints, if_true, Option.map_some, Option.bind_some, it_t, ev_os]
  exact fm_gone h0 h1 bs [] .no .no rfl rfl (fun b h => ⟨hb.pos b h, (hb.lim b h).2⟩) (by simp; omega) hS
theorem c19 {far : Int} {s7 s8 s9 s11 s12 : Pd.Slot} (hb : Belt bs) (hn : n ≤ 400) (h0 : 0 ≤ far) (h1 : far ≤ 1000) (hS : S.nx [q0, .ow (tI bs), .ow (sv bs), .ow (.int (n : Int)), q4, q5, .ow (.list ((soonL bs far).map .int)), s7, s8, s9, .ow (.int far), s11, s12, .no, .no, .no, .no, .no, .no, .no, .no]) :
    C19 S [q0, .ow (tI bs), .ow (sv bs), .ow (.int (n : Int)), q4, q5, .ow (.list ((soonL bs far).map .int)), s7, s8, s9, .ow (.int far), s11, s12, .no, .no, .no, .no, .no, .no, .no, .no] := by
  have p := q_sooner_of hb (n := (n : Int)) (by omega) (by omega) h0 h1
  have tp := gl_tupL (fz_ints (xs := soonL bs far))
  simp only [C19, m_law_right_19, ev_if, ev_mT, ev_tst, ev_call, ev_acons, ev_anil, ev_e2, ev_fn, ev_var, ev_getS, ev_get0, ev_val1, Option.bind_some, List.length_cons, List.length_nil, if_true, p, tp, cn_tt, decide_true, Bool.not_true, ev_toB, Option.map_some, ev_os, Bool.false_eq_true, if_false, ev_next]
  exact hS
theorem c20 {m : Int} {q6 s7 s8 s9 s10 s11 s12 : Pd.Slot} (hb : Belt bs) (o : h.Ok m) (hm : m ≤ 800000) (hn : n ≤ 400) (hR : ∀ ε : En, ε[0]? = some (.io (handD (markHand h bs))) → S.rt (.bool true) ε) :
    C20 S [.io (handD h), .ow (tI bs), .ow (sv bs), .ow (.int (n : Int)), .ow (.int (lcmL bs)), q5, q6, s7, s8, s9, s10, s11, s12, .no, .no, .no, .no, .no, .no, .no, .no] := by
  have p := q_saved_visits hb (show n ≤ 1000 by omega)
  have q := q_law_are_marks_right (o.mono hm) hb
  simp only [C20, m_law_right_20, ev_ret, ev_mandv, ev_mP, ev_e2, ev_fn, ev_acons, ev_anil, ev_c, ev_var, ev_getS, ev_get0, ev_val1, Option.bind_some, List.length_cons, List.length_nil, if_true, p, cq_ii, decide_true, Option.map_some, ev_toB, ev_mio, ev_mineAt0, ev_mine3, ev_mhhole, ev_macons, ev_lendS, ev_lend0, fz_tup, fz_ints, fz_int, ev_manil, List.nil_append, q, ev_setm1, ev_os]
  exact hR _ rfl
/-! the whole def -/
def rightHand (h : Hand) : Hand := markHand ((((beltOf h).2.draw 200).2.draw 900).2.draw 1001).2 (beltOf h).1
theorem markHand_ok {m : Int} (o : h.Ok m) (hb : Belt bs) : (markHand h bs).Ok (m + 7) := by
  obtain ⟨_, _, d3⟩ := drawAll_spec bs h m o hb.pos
  obtain ⟨o2, _, _⟩ := d3.draw (many := 1000000) (by decide)
  exact o2.mono (by have := hb.len; omega)
theorem run_right {m : Int} (o : h.Ok m) (hm : m ≤ 700000) (hR : ∀ ε : En, ε[0]? = some (.io (handD (rightHand h))) → S.rt (.bool true) ε) :
    (rightHand h).Ok (m + 30) ∧ E0 S [.io (handD h), .no, .no, .no, .no, .no, .no, .no, .no, .no, .no, .no, .no, .no, .no, .no, .no, .no, .no, .no, .no] := by
  obtain ⟨o1, v0, v1⟩ := o.draw (many := 4) (by decide)
  obtain ⟨z1, z2, z3⟩ := beltDraw_spec (1 + (h.draw 4).1).toNat _ _ o1
  have zb : Belt (beltOf h).1 := ⟨by show 1 ≤ (beltDraw _ _).1.length; omega, by show (beltDraw _ _).1.length ≤ 6; omega, fun b hb => by have := z2 b hb; omega⟩
  have o2 : (beltOf h).2.Ok (m + 9) := z3.mono (by omega)
  obtain ⟨o3, n0, n1⟩ := o2.draw (many := 200) (by decide)
  obtain ⟨o4, d0, d1⟩ := o3.draw (many := 900) (by decide)
  obtain ⟨o5, f0, f1⟩ := o4.draw (many := 1001) (by decide)
  have o6 := markHand_ok o5 zb
  refine ⟨o6.mono (by omega), ?_⟩
  unfold rightHand at hR
  refine c0 (S := ⟨E1 S, S.rt, S.bk, S.ct⟩) o (by omega) ?_
  generalize (beltOf h).1 = bs at *
  generalize (beltOf h).2 = g at *
  refine c1 (S := ⟨E2 S, S.rt, S.bk, S.ct⟩) zb o2 (by omega) ?_
  obtain ⟨n, en⟩ : ∃ n : Nat, (g.draw 200).1 = (n : Int) := ⟨((g.draw 200).1).toNat, by omega⟩
  rw [en] at n0 n1 ⊢
  generalize (g.draw 200).2 = g2 at *
  refine c2 (S := ⟨E3 S, S.rt, S.bk, S.ct⟩) zb ?_
  refine c3 (S := ⟨E4 S, S.rt, S.bk, S.ct⟩) zb (by omega) ?_
  refine c4 (S := ⟨E5 S, S.rt, S.bk, S.ct⟩) zb (by omega) ?_
  refine c5 (S := ⟨E6 S, S.rt, S.bk, S.ct⟩) zb (by omega) ?_
  refine c6 (S := ⟨E7 S, S.rt, S.bk, S.ct⟩) zb (by omega) ?_
  refine c7 (S := ⟨E8 S, S.rt, S.bk, S.ct⟩) zb (by omega) ?_
  refine c8 (S := ⟨E9 S, S.rt, S.bk, S.ct⟩) o3 (by omega) ?_
  refine c9 (S := ⟨E10 S, S.rt, S.bk, S.ct⟩) zb (by omega) (by omega) ?_
  refine c10 (S := ⟨E11 S, S.rt, S.bk, S.ct⟩) zb (by omega) (by omega) ?_
  refine c11 (S := ⟨E12 S, S.rt, S.bk, S.ct⟩) zb (by omega) (by omega) ?_
  refine c12 (S := ⟨E13 S, S.rt, S.bk, S.ct⟩) zb (by omega) (by omega) ?_
  refine c13 (S := ⟨E14 S, S.rt, S.bk, S.ct⟩) zb (by omega) ?_
  refine c14 (S := ⟨E15 S, S.rt, S.bk, S.ct⟩) zb (by omega) ?_
  refine c15 (S := ⟨E16 S, S.rt, S.bk, S.ct⟩) zb (by omega) ?_
  refine c16 (S := ⟨E17 S, S.rt, S.bk, S.ct⟩) o4 (by omega) ?_
  refine c17 (S := ⟨E18 S, S.rt, S.bk, S.ct⟩) ?_
  refine c18 (S := ⟨E19 S, S.rt, S.bk, S.ct⟩) zb f0 (by omega) fun s11 s12 => ?_
  refine c19 (S := ⟨E20 S, S.rt, S.bk, S.ct⟩) zb (by omega) f0 (by omega) ?_
  exact c20 (S := S) zb o5 (by omega) (by omega) hR
noncomputable def c_law_right := gOfI (fun h : Hand => [handD h]) (fun h => h.Ok 700000) (fun h => (.bool true, handD (rightHand h)))
theorem q_law_right {h : Hand} (o : h.Ok 700000) : c_law_right [handD h] = some (.bool true, handD (rightHand h)) := gOfI_eq (f := fun h : Hand => [handD h]) (fun a b h => by
  simp only [List.cons.injEq, and_true] at h
  rw [handD_inj h]) (a := h) o
theorem l_law_right : ∀ dpre d dpost r d', dpre.length = 0 → dpre.length + 1 + dpost.length = 1 → c_law_right (dpre ++ d :: dpost) = some (r, d') → m_law_right c_law_are_marks_right c_saved_visits c_sooner_of c_law_draw c_joined_visits c_plain_visits c_done_many c_turns_after c_plain_days c_marks_after c_next_due c_due_on c_plain_many c_marks_all c_stand_many c_all_due c_round_of c_law_any (seI 0 r d') (envI dpre d dpost 20) := by
  intro dpre d dpost r d' hl _ h
  obtain ⟨hd, o, e, q⟩ := gOfI_inv h
  have e0 := List.eq_nil_of_length_eq_zero hl
  subst e0
  simp only [List.nil_append, List.cons.injEq] at e
  obtain ⟨rfl, rfl⟩ := e
  cases q
  rw [e_law_right]
  exact (run_right (S := seI 0 (.bool true) (handD (rightHand hd))) o (by omega) fun ε z => ⟨rfl, z⟩).2
/-! the law -/
noncomputable def c_law := gOf (fun ns : List Int => [scrD ns]) (fun ns => ns.length ≤ 63) (fun _ => .bool true)
theorem comp_law {q0 : Pd.Slot} {T : En} {j : Nat} (hT : T[j]? = some .no) : ∀ (is : List Int) (h : Hand) (m : Int), h.Ok m → m + 30 * (is.length : Int) ≤ 700000 →
    ∃ h', compM [j + 2] (bbName (j + 2)) mTrue (mIo 1 1 c_law_right (mhHole maNil)) (is.map .int) (q0 :: .ow (handD h) :: T) = some (is.map fun _ => .bool true, q0 :: .ow (handD h') :: T) := by
  intro is
  induction is with
  | nil => intro h n o _; exact ⟨h, rfl⟩
  | cons b is ih =>
    intro h m o hn
    simp only [List.length_cons] at hn
    have o2 := (run_right (S := ⟨fun _ => True, fun _ _ => True, fun _ => True, fun _ => True⟩) o (by omega) fun _ _ => trivial).1
    obtain ⟨h', e⟩ := ih (rightHand h) _ o2 (by omega)
    have q := q_law_right (o.mono (show m ≤ 700000 by omega))
    refine ⟨h', ?_⟩
    rw [List.map_cons, compM_cons]
    simp only [ev_bbname, List.getElem?_cons_succ, hT, ev_io3, if_true, List.set_cons_succ, ts_int, Option.bind_some, ev_mtrue, ev_mio, ev_mineAtS, ev_mineAt0, ev_mine1, ev_mhhole, ev_manil, Option.map_some, List.length_nil, List.nil_append, q, ev_setmS, ev_setm0, List.length_set, List.length_cons, ev_wipeS, ev_wipe0, List.set_set, set_same hT, e]
    simp
theorem l_law : ∀ ds d, ds.length = 1 → c_law ds = some d → m_law c_law_right c_law_hand (seP d) (envP ds 2) := by
  intro ds d _ h
  obtain ⟨ns, hn, rfl, rfl⟩ := gOf_inv h
  have o := handOf_ok hn
  obtain ⟨h', e⟩ := comp_law (q0 := .bo (scrD ns)) (T := [.no]) (j := 0) rfl [0, 1, 2] (handOf ns) 0 o (by simp)
  have q := q_law_hand hn
  have ts : toSl (scrD ns) = .bo (scrD ns) := rfl
  have rg := rg1_nat (n := 3) (by decide)
  have r3 : ((List.range 3).map fun i : Nat => PyData.int (i : Int)) = [0, 1, 2].map PyData.int := rfl
  have c3 : 3 ≤ cap := capL (by decide)
  have ga : gAll [.list ([0, 1, 2].map fun _ : Int => PyData.bool true)] = some (.bool true) := gl_allT
  rw [r3] at rg
  simp at rg e ga
  simp [m_law, ts, q, rg, c3, wipeOk, wOk]
  rw [e]
  simp [ga, backE, toBo]
theorem c_law_says : ∀ ns : List Int, ns.length ≤ 63 → c_law [.dict [(.bool true, .list (ns.map .int))]] = some (.bool true) := fun ns h => gOf_eq (f := fun ns : List Int => [scrD ns]) (fun _ _ _ => rfl) (a := ns) h
end K97

set_option Elab.async false
set_option linter.all false
set_option maxRecDepth 100000
set_option maxHeartbeats 0
/-! the head: what the top leaves; each def keeps its promise. -/
namespace Gen
open PySem PySem.Spec PyProof.Rows L2 Pd
section
variable {P : Program} {w : World} {K : PySem.W.Frag} {mg : Str → Option Value} {base : Heap}
theorem O_law {f : Addr} {fd : FuncData} (F : Fun K "law" "law" s_law f fd) (hb : L2.Binds K fd ["script"] []) (hm : mg "law" = some (.ref f)) (z_range : mg "range" = none) (z_all : mg "all" = none) {g_law_right : List D → Option (D × D)} (F_law_right : FnD P w K mg base "_law_right" 11 (spI K 1 0 g_law_right)) {g_law_hand : List D → Option D} (F_law_hand : FnD P w K mg base "_law_hand" 1 (spP K 1 g_law_hand))
    {g : List D → Option D} (law : ∀ ds d, ds.length = 1 → g ds = some d → m_law g_law_right g_law_hand (seP d) (envP ds 2)) : FnOk P w K mg base CX0 12 f fd ["script"] (spP K 1 g) := by
  refine okP (k := 11) F sc_law (fun cdv A outer s H E hr => ?_) law
  have hu := hu64 hr
  have hu1 := hu_of hr
  have nd := sc_law.nd
  exact ⟨_, (ss_cons (ss_set (i := 1) nd (mm_pf (pf_fn F_law_hand (hr.mono (by decide)) (ar_cons (pv' 0) ar_nil))))
    (ss_one (ss_ret (mm_cb (c_all) z_all (ma_cons (mv_mm (mm_lc (own := [("turn", 2)]) nd (mi_of (it_rg1 z_range) (ma_cons (mv_pf pk_int) ma_nil)) (blkOk_by (own := [("turn", 2)]) (N := N_law) (sc := defScope s_law) (by decide +kernel)) (fun _ _ _ _ _ => (bt_name 2 nd)) (fun _ _ _ _ _ => mts_nil) (fun _ _ _ _ _ => (mm_io F_law_right (hr.mono (by decide)) (mh_hole (i := 1) ma_nil))))) ma_nil)))))⟩
end
end Gen
namespace Head
open PySem PySem.Spec PyProof.Rows L2 Pd Gen
def d_law_hand : He.DefD := ⟨("_law_hand", none), "_law_hand", "_law_hand", defArgs s_law_hand, defBody s_law_hand, defScope s_law_hand, [], []⟩
def d_is_integer : He.DefD := ⟨("is_integer", none), "is_integer", "is_integer", defArgs s_is_integer, defBody s_is_integer, defScope s_is_integer, [], []⟩
def d_is_within : He.DefD := ⟨("is_within", none), "is_within", "is_within", defArgs s_is_within, defBody s_is_within, defScope s_is_within, [], []⟩
def d_is_row : He.DefD := ⟨("is_row", none), "is_row", "is_row", defArgs s_is_row, defBody s_is_row, defScope s_is_row, [], []⟩
def d_is_some : He.DefD := ⟨("is_some", none), "is_some", "is_some", defArgs s_is_some, defBody s_is_some, defScope s_is_some, [], []⟩
def d_is_belt : He.DefD := ⟨("is_belt", none), "is_belt", "is_belt", defArgs s_is_belt, defBody s_is_belt, defScope s_is_belt, [], []⟩
def d_check_belt : He.DefD := ⟨("check_belt", none), "check_belt", "check_belt", defArgs s_check_belt, defBody s_check_belt, defScope s_check_belt, [], []⟩
def d_shared : He.DefD := ⟨("shared", none), "shared", "shared", defArgs s_shared, defBody s_shared, defScope s_shared, [], []⟩
def d_round_of : He.DefD := ⟨("round_of", none), "round_of", "round_of", defArgs s_round_of, defBody s_round_of, defScope s_round_of, [], []⟩
def d_check_moved : He.DefD := ⟨("check_moved", none), "check_moved", "check_moved", defArgs s_check_moved, defBody s_check_moved, defScope s_check_moved, [], []⟩
def d_marks_after : He.DefD := ⟨("marks_after", none), "marks_after", "marks_after", defArgs s_marks_after, defBody s_marks_after, defScope s_marks_after, [], []⟩
def d_marks_all : He.DefD := ⟨("marks_all", none), "marks_all", "marks_all", defArgs s_marks_all, defBody s_marks_all, defScope s_marks_all, [], []⟩
def d_is_service : He.DefD := ⟨("is_service", none), "is_service", "is_service", defArgs s_is_service, defBody s_is_service, defScope s_is_service, [], []⟩
def d_check_service : He.DefD := ⟨("check_service", none), "check_service", "check_service", defArgs s_check_service, defBody s_check_service, defScope s_check_service, [], []⟩
def d_next_due : He.DefD := ⟨("next_due", none), "next_due", "next_due", defArgs s_next_due, defBody s_next_due, defScope s_next_due, [], []⟩
def d_law_draw : He.DefD := ⟨("_law_draw", none), "_law_draw", "_law_draw", defArgs s_law_draw, defBody s_law_draw, defScope s_law_draw, [], []⟩
def d_plain_days : He.DefD := ⟨("plain_days", none), "plain_days", "plain_days", defArgs s_plain_days, defBody s_plain_days, defScope s_plain_days, [], []⟩
def d_plain_visits : He.DefD := ⟨("plain_visits", none), "plain_visits", "plain_visits", defArgs s_plain_visits, defBody s_plain_visits, defScope s_plain_visits, [], []⟩
def d_plain_many : He.DefD := ⟨("plain_many", none), "plain_many", "plain_many", defArgs s_plain_many, defBody s_plain_many, defScope s_plain_many, [], []⟩
def d_due_on : He.DefD := ⟨("due_on", none), "due_on", "due_on", defArgs s_due_on, defBody s_due_on, defScope s_due_on, [], []⟩
def d_joined_visits : He.DefD := ⟨("joined_visits", none), "joined_visits", "joined_visits", defArgs s_joined_visits, defBody s_joined_visits, defScope s_joined_visits, [], []⟩
def d_done_many : He.DefD := ⟨("done_many", none), "done_many", "done_many", defArgs s_done_many, defBody s_done_many, defScope s_done_many, [], []⟩
def d_sooner_of : He.DefD := ⟨("sooner_of", none), "sooner_of", "sooner_of", defArgs s_sooner_of, defBody s_sooner_of, defScope s_sooner_of, [], []⟩
def d_check_marks : He.DefD := ⟨("check_marks", none), "check_marks", "check_marks", defArgs s_check_marks, defBody s_check_marks, defScope s_check_marks, [], []⟩
def d_marks_stand : He.DefD := ⟨("marks_stand", none), "marks_stand", "marks_stand", defArgs s_marks_stand, defBody s_marks_stand, defScope s_marks_stand, [], []⟩
def d_next_stand : He.DefD := ⟨("next_stand", none), "next_stand", "next_stand", defArgs s_next_stand, defBody s_next_stand, defScope s_next_stand, [], []⟩
def d_all_agree : He.DefD := ⟨("all_agree", none), "all_agree", "all_agree", defArgs s_all_agree, defBody s_all_agree, defScope s_all_agree, [], []⟩
def d_slips_for : He.DefD := ⟨("slips_for", none), "slips_for", "slips_for", defArgs s_slips_for, defBody s_slips_for, defScope s_slips_for, [], []⟩
def d_never_many : He.DefD := ⟨("never_many", none), "never_many", "never_many", defArgs s_never_many, defBody s_never_many, defScope s_never_many, [], []⟩
def d_slipped : He.DefD := ⟨("slipped", none), "slipped", "slipped", defArgs s_slipped, defBody s_slipped, defScope s_slipped, [], []⟩
def d_is_marks_stand : He.DefD := ⟨("is_marks_stand", none), "is_marks_stand", "is_marks_stand", defArgs s_is_marks_stand, defBody s_is_marks_stand, defScope s_is_marks_stand, [], []⟩
def d_wheel_between : He.DefD := ⟨("wheel_between", none), "wheel_between", "wheel_between", defArgs s_wheel_between, defBody s_wheel_between, defScope s_wheel_between, [], []⟩
def d_check_teeth : He.DefD := ⟨("check_teeth", none), "check_teeth", "check_teeth", defArgs s_check_teeth, defBody s_check_teeth, defScope s_check_teeth, [], []⟩
def d_same_meet : He.DefD := ⟨("same_meet", none), "same_meet", "same_meet", defArgs s_same_meet, defBody s_same_meet, defScope s_same_meet, [], []⟩
def d_all_meet : He.DefD := ⟨("all_meet", none), "all_meet", "all_meet", defArgs s_all_meet, defBody s_all_meet, defScope s_all_meet, [], []⟩
def d_teeth_met : He.DefD := ⟨("teeth_met", none), "teeth_met", "teeth_met", defArgs s_teeth_met, defBody s_teeth_met, defScope s_teeth_met, [], []⟩
def d_law_are_marks_right : He.DefD := ⟨("_law_are_marks_right", none), "_law_are_marks_right", "_law_are_marks_right", defArgs s_law_are_marks_right, defBody s_law_are_marks_right, defScope s_law_are_marks_right, [], []⟩
def d_all_due : He.DefD := ⟨("all_due", none), "all_due", "all_due", defArgs s_all_due, defBody s_all_due, defScope s_all_due, [], []⟩
def d_stand_many : He.DefD := ⟨("stand_many", none), "stand_many", "stand_many", defArgs s_stand_many, defBody s_stand_many, defScope s_stand_many, [], []⟩
def d_visits_many : He.DefD := ⟨("visits_many", none), "visits_many", "visits_many", defArgs s_visits_many, defBody s_visits_many, defScope s_visits_many, [], []⟩
def d_saved_visits : He.DefD := ⟨("saved_visits", none), "saved_visits", "saved_visits", defArgs s_saved_visits, defBody s_saved_visits, defScope s_saved_visits, [], []⟩
def d_turns_after : He.DefD := ⟨("turns_after", none), "turns_after", "turns_after", defArgs s_turns_after, defBody s_turns_after, defScope s_turns_after, [], []⟩
def d_law_any : He.DefD := ⟨("_law_any", none), "_law_any", "_law_any", defArgs s_law_any, defBody s_law_any, defScope s_law_any, [], []⟩
def d_law_right : He.DefD := ⟨("_law_right", none), "_law_right", "_law_right", defArgs s_law_right, defBody s_law_right, defScope s_law_right, [], []⟩
def d_law : He.DefD := ⟨("law", none), "law", "law", defArgs s_law, defBody s_law, defScope s_law, [], []⟩
def fn0 : List He.DefD := [d_law_hand, d_is_integer, d_is_within, d_is_row, d_is_some, d_is_belt, d_check_belt, d_shared, d_round_of, d_check_moved, d_marks_after, d_marks_all, d_is_service, d_check_service, d_next_due, d_law_draw, d_plain_days, d_plain_visits, d_plain_many, d_due_on, d_joined_visits, d_done_many, d_sooner_of, d_check_marks, d_marks_stand, d_next_stand, d_all_agree, d_slips_for, d_never_many, d_slipped]
def fn1 : List He.DefD := [d_is_marks_stand, d_wheel_between, d_check_teeth, d_same_meet, d_all_meet, d_teeth_met, d_law_are_marks_right, d_all_due, d_stand_many, d_visits_many, d_saved_visits, d_turns_after, d_law_any, d_law_right, d_law]
def fn : List He.DefD := fn0 ++ fn1
def fa0 : List He.Fa := [.glo "_law_hand", .glo "is_integer", .glo "is_within", .glo "is_row", .glo "is_some", .glo "is_belt", .glo "check_belt", .glo "shared", .glo "round_of", .glo "check_moved", .glo "marks_after", .glo "marks_all", .glo "is_service", .glo "check_service", .glo "next_due", .glo "_law_draw", .glo "plain_days", .glo "plain_visits", .glo "plain_many", .glo "due_on", .glo "joined_visits", .glo "done_many", .glo "sooner_of", .glo "check_marks", .glo "marks_stand", .glo "next_stand", .glo "all_agree", .glo "slips_for", .glo "never_many", .glo "slipped"]
def fa1 : List He.Fa := [.glo "is_marks_stand", .glo "wheel_between", .glo "check_teeth", .glo "same_meet", .glo "all_meet", .glo "teeth_met", .glo "_law_are_marks_right", .glo "all_due", .glo "stand_many", .glo "visits_many", .glo "saved_visits", .glo "turns_after", .glo "_law_any", .glo "_law_right", .glo "law", .free "len", .free "int", .free "abs", .free "isinstance", .free "bool", .free "all", .free "tuple", .free "range", .int "MOST" 1000, .free "enumerate", .free "min", .free "list", .free "sorted", .free "zip", .free "str"]
def fa2 : List He.Fa := [.free "any"]
def fa : List He.Fa := fa0 ++ fa1 ++ fa2
def loose0 : List Str := ["is_integer", "is_within", "is_row", "is_some", "shared", "GarageError", "NoBelt", "NoDays", "NoMarks", "NoService", "NoTeeth", "is_belt", "check_belt", "check_marks", "check_moved", "marks_after", "turns_after", "round_of", "marks_stand", "is_marks_stand", "stand_many", "next_stand", "never_many", "slipped", "slips_for", "all_agree", "wheel_between", "marks_all", "check_teeth", "same_meet"]
def loose1 : List Str := ["teeth_met", "all_meet", "MOST", "is_service", "check_service", "plain_days", "plain_visits", "joined_visits", "visits_many", "done_many", "all_due", "due_on", "next_due", "plain_many", "sooner_of", "saved_visits", "_law_hand", "_law_draw", "_law_any", "_law_is_flag", "_law_is_integer", "_law_is_number", "_law_mixed", "_law_right", "_law_are_marks_right"]
def loose : List Str := loose0 ++ loose1
abbrev R : PySem.W.OpenRow := PySem.W.OpenLaw.row PySem.Challenge.rw_mendgarage_k97_whole_services_as_wheels
abbrev hk : PySem.W.Hook := He.hookD 4 fa fn
def ob (s : PySem.W.SharedT) : He.AlD := He.obsDG 4 fa fn (HandSHeadRun.getT s)
theorem ob_eq (s : PySem.W.SharedT) : ob s = hk.obs s.abs := He.obsDG_eq (HandSHeadRun.getT_eq s)
theorem run (w : World) : HandSHeadRun.RunEq R (PySem.W.view R.prog [61]) hk ob 4000 loose w := by
  intro os
  kernel_rfl
theorem facts_ok {P : Program} {w : World} {K : PySem.W.Frag} {h : Heap} {mg : Str → Option Value} {fd : FuncData} (X : K.In h) (G : h.Ns mainGlobals mg) (c : He.SaysD fa fn K) (F_law : Fun K "law" "law" s_law (He.ga K "law") fd) (base : Heap) (XB : K.In base) (GB : base.Ns mainGlobals mg) : FnOk P w K mg base CX0 12 (He.ga K "law") fd ["script"] (spP K 1 K97.c_law) := by
  obtain ⟨fd_law_hand, FD_law_hand⟩ := c.def_ 0 (d := d_law_hand) rfl
  have F_law_hand := fun_of (st := s_law_hand) FD_law_hand rfl
  have G_law_hand : mg "_law_hand" = some (.ref (He.ga K "_law_hand")) := He.glo_ok X G (c.fact 0 (f := .glo "_law_hand") rfl)
  obtain ⟨fd_is_integer, FD_is_integer⟩ := c.def_ 1 (d := d_is_integer) rfl
  have F_is_integer := fun_of (st := s_is_integer) FD_is_integer rfl
  have G_is_integer : mg "is_integer" = some (.ref (He.ga K "is_integer")) := He.glo_ok X G (c.fact 1 (f := .glo "is_integer") rfl)
  obtain ⟨fd_is_within, FD_is_within⟩ := c.def_ 2 (d := d_is_within) rfl
  have F_is_within := fun_of (st := s_is_within) FD_is_within rfl
  have G_is_within : mg "is_within" = some (.ref (He.ga K "is_within")) := He.glo_ok X G (c.fact 2 (f := .glo "is_within") rfl)
  obtain ⟨fd_is_row, FD_is_row⟩ := c.def_ 3 (d := d_is_row) rfl
  have F_is_row := fun_of (st := s_is_row) FD_is_row rfl
  have G_is_row : mg "is_row" = some (.ref (He.ga K "is_row")) := He.glo_ok X G (c.fact 3 (f := .glo "is_row") rfl)
  obtain ⟨fd_is_some, FD_is_some⟩ := c.def_ 4 (d := d_is_some) rfl
  have F_is_some := fun_of (st := s_is_some) FD_is_some rfl
  have G_is_some : mg "is_some" = some (.ref (He.ga K "is_some")) := He.glo_ok X G (c.fact 4 (f := .glo "is_some") rfl)
  obtain ⟨fd_is_belt, FD_is_belt⟩ := c.def_ 5 (d := d_is_belt) rfl
  have F_is_belt := fun_of (st := s_is_belt) FD_is_belt rfl
  have G_is_belt : mg "is_belt" = some (.ref (He.ga K "is_belt")) := He.glo_ok X G (c.fact 5 (f := .glo "is_belt") rfl)
  obtain ⟨fd_check_belt, FD_check_belt⟩ := c.def_ 6 (d := d_check_belt) rfl
  have F_check_belt := fun_of (st := s_check_belt) FD_check_belt rfl
  have G_check_belt : mg "check_belt" = some (.ref (He.ga K "check_belt")) := He.glo_ok X G (c.fact 6 (f := .glo "check_belt") rfl)
  obtain ⟨fd_shared, FD_shared⟩ := c.def_ 7 (d := d_shared) rfl
  have F_shared := fun_of (st := s_shared) FD_shared rfl
  have G_shared : mg "shared" = some (.ref (He.ga K "shared")) := He.glo_ok X G (c.fact 7 (f := .glo "shared") rfl)
  obtain ⟨fd_round_of, FD_round_of⟩ := c.def_ 8 (d := d_round_of) rfl
  have F_round_of := fun_of (st := s_round_of) FD_round_of rfl
  have G_round_of : mg "round_of" = some (.ref (He.ga K "round_of")) := He.glo_ok X G (c.fact 8 (f := .glo "round_of") rfl)
  obtain ⟨fd_check_moved, FD_check_moved⟩ := c.def_ 9 (d := d_check_moved) rfl
  have F_check_moved := fun_of (st := s_check_moved) FD_check_moved rfl
  have G_check_moved : mg "check_moved" = some (.ref (He.ga K "check_moved")) := He.glo_ok X G (c.fact 9 (f := .glo "check_moved") rfl)
  obtain ⟨fd_marks_after, FD_marks_after⟩ := c.def_ 10 (d := d_marks_after) rfl
  have F_marks_after := fun_of (st := s_marks_after) FD_marks_after rfl
  have G_marks_after : mg "marks_after" = some (.ref (He.ga K "marks_after")) := He.glo_ok X G (c.fact 10 (f := .glo "marks_after") rfl)
  obtain ⟨fd_marks_all, FD_marks_all⟩ := c.def_ 11 (d := d_marks_all) rfl
  have F_marks_all := fun_of (st := s_marks_all) FD_marks_all rfl
  have G_marks_all : mg "marks_all" = some (.ref (He.ga K "marks_all")) := He.glo_ok X G (c.fact 11 (f := .glo "marks_all") rfl)
  obtain ⟨fd_is_service, FD_is_service⟩ := c.def_ 12 (d := d_is_service) rfl
  have F_is_service := fun_of (st := s_is_service) FD_is_service rfl
  have G_is_service : mg "is_service" = some (.ref (He.ga K "is_service")) := He.glo_ok X G (c.fact 12 (f := .glo "is_service") rfl)
  obtain ⟨fd_check_service, FD_check_service⟩ := c.def_ 13 (d := d_check_service) rfl
  have F_check_service := fun_of (st := s_check_service) FD_check_service rfl
  have G_check_service : mg "check_service" = some (.ref (He.ga K "check_service")) := He.glo_ok X G (c.fact 13 (f := .glo "check_service") rfl)
  obtain ⟨fd_next_due, FD_next_due⟩ := c.def_ 14 (d := d_next_due) rfl
  have F_next_due := fun_of (st := s_next_due) FD_next_due rfl
  have G_next_due : mg "next_due" = some (.ref (He.ga K "next_due")) := He.glo_ok X G (c.fact 14 (f := .glo "next_due") rfl)
  obtain ⟨fd_law_draw, FD_law_draw⟩ := c.def_ 15 (d := d_law_draw) rfl
  have F_law_draw := fun_of (st := s_law_draw) FD_law_draw rfl
  have G_law_draw : mg "_law_draw" = some (.ref (He.ga K "_law_draw")) := He.glo_ok X G (c.fact 15 (f := .glo "_law_draw") rfl)
  obtain ⟨fd_plain_days, FD_plain_days⟩ := c.def_ 16 (d := d_plain_days) rfl
  have F_plain_days := fun_of (st := s_plain_days) FD_plain_days rfl
  have G_plain_days : mg "plain_days" = some (.ref (He.ga K "plain_days")) := He.glo_ok X G (c.fact 16 (f := .glo "plain_days") rfl)
  obtain ⟨fd_plain_visits, FD_plain_visits⟩ := c.def_ 17 (d := d_plain_visits) rfl
  have F_plain_visits := fun_of (st := s_plain_visits) FD_plain_visits rfl
  have G_plain_visits : mg "plain_visits" = some (.ref (He.ga K "plain_visits")) := He.glo_ok X G (c.fact 17 (f := .glo "plain_visits") rfl)
  obtain ⟨fd_plain_many, FD_plain_many⟩ := c.def_ 18 (d := d_plain_many) rfl
  have F_plain_many := fun_of (st := s_plain_many) FD_plain_many rfl
  have G_plain_many : mg "plain_many" = some (.ref (He.ga K "plain_many")) := He.glo_ok X G (c.fact 18 (f := .glo "plain_many") rfl)
  obtain ⟨fd_due_on, FD_due_on⟩ := c.def_ 19 (d := d_due_on) rfl
  have F_due_on := fun_of (st := s_due_on) FD_due_on rfl
  have G_due_on : mg "due_on" = some (.ref (He.ga K "due_on")) := He.glo_ok X G (c.fact 19 (f := .glo "due_on") rfl)
  obtain ⟨fd_joined_visits, FD_joined_visits⟩ := c.def_ 20 (d := d_joined_visits) rfl
  have F_joined_visits := fun_of (st := s_joined_visits) FD_joined_visits rfl
  have G_joined_visits : mg "joined_visits" = some (.ref (He.ga K "joined_visits")) := He.glo_ok X G (c.fact 20 (f := .glo "joined_visits") rfl)
  obtain ⟨fd_done_many, FD_done_many⟩ := c.def_ 21 (d := d_done_many) rfl
  have F_done_many := fun_of (st := s_done_many) FD_done_many rfl
  have G_done_many : mg "done_many" = some (.ref (He.ga K "done_many")) := He.glo_ok X G (c.fact 21 (f := .glo "done_many") rfl)
  obtain ⟨fd_sooner_of, FD_sooner_of⟩ := c.def_ 22 (d := d_sooner_of) rfl
  have F_sooner_of := fun_of (st := s_sooner_of) FD_sooner_of rfl
  have G_sooner_of : mg "sooner_of" = some (.ref (He.ga K "sooner_of")) := He.glo_ok X G (c.fact 22 (f := .glo "sooner_of") rfl)
  obtain ⟨fd_check_marks, FD_check_marks⟩ := c.def_ 23 (d := d_check_marks) rfl
  have F_check_marks := fun_of (st := s_check_marks) FD_check_marks rfl
  have G_check_marks : mg "check_marks" = some (.ref (He.ga K "check_marks")) := He.glo_ok X G (c.fact 23 (f := .glo "check_marks") rfl)
  obtain ⟨fd_marks_stand, FD_marks_stand⟩ := c.def_ 24 (d := d_marks_stand) rfl
  have F_marks_stand := fun_of (st := s_marks_stand) FD_marks_stand rfl
  have G_marks_stand : mg "marks_stand" = some (.ref (He.ga K "marks_stand")) := He.glo_ok X G (c.fact 24 (f := .glo "marks_stand") rfl)
  obtain ⟨fd_next_stand, FD_next_stand⟩ := c.def_ 25 (d := d_next_stand) rfl
  have F_next_stand := fun_of (st := s_next_stand) FD_next_stand rfl
  have G_next_stand : mg "next_stand" = some (.ref (He.ga K "next_stand")) := He.glo_ok X G (c.fact 25 (f := .glo "next_stand") rfl)
  obtain ⟨fd_all_agree, FD_all_agree⟩ := c.def_ 26 (d := d_all_agree) rfl
  have F_all_agree := fun_of (st := s_all_agree) FD_all_agree rfl
  have G_all_agree : mg "all_agree" = some (.ref (He.ga K "all_agree")) := He.glo_ok X G (c.fact 26 (f := .glo "all_agree") rfl)
  obtain ⟨fd_slips_for, FD_slips_for⟩ := c.def_ 27 (d := d_slips_for) rfl
  have F_slips_for := fun_of (st := s_slips_for) FD_slips_for rfl
  have G_slips_for : mg "slips_for" = some (.ref (He.ga K "slips_for")) := He.glo_ok X G (c.fact 27 (f := .glo "slips_for") rfl)
  obtain ⟨fd_never_many, FD_never_many⟩ := c.def_ 28 (d := d_never_many) rfl
  have F_never_many := fun_of (st := s_never_many) FD_never_many rfl
  have G_never_many : mg "never_many" = some (.ref (He.ga K "never_many")) := He.glo_ok X G (c.fact 28 (f := .glo "never_many") rfl)
  obtain ⟨fd_slipped, FD_slipped⟩ := c.def_ 29 (d := d_slipped) rfl
  have F_slipped := fun_of (st := s_slipped) FD_slipped rfl
  have G_slipped : mg "slipped" = some (.ref (He.ga K "slipped")) := He.glo_ok X G (c.fact 29 (f := .glo "slipped") rfl)
  obtain ⟨fd_is_marks_stand, FD_is_marks_stand⟩ := c.def_ 30 (d := d_is_marks_stand) rfl
  have F_is_marks_stand := fun_of (st := s_is_marks_stand) FD_is_marks_stand rfl
  have G_is_marks_stand : mg "is_marks_stand" = some (.ref (He.ga K "is_marks_stand")) := He.glo_ok X G (c.fact 30 (f := .glo "is_marks_stand") rfl)
  obtain ⟨fd_wheel_between, FD_wheel_between⟩ := c.def_ 31 (d := d_wheel_between) rfl
  have F_wheel_between := fun_of (st := s_wheel_between) FD_wheel_between rfl
  have G_wheel_between : mg "wheel_between" = some (.ref (He.ga K "wheel_between")) := He.glo_ok X G (c.fact 31 (f := .glo "wheel_between") rfl)
  obtain ⟨fd_check_teeth, FD_check_teeth⟩ := c.def_ 32 (d := d_check_teeth) rfl
  have F_check_teeth := fun_of (st := s_check_teeth) FD_check_teeth rfl
  have G_check_teeth : mg "check_teeth" = some (.ref (He.ga K "check_teeth")) := He.glo_ok X G (c.fact 32 (f := .glo "check_teeth") rfl)
  obtain ⟨fd_same_meet, FD_same_meet⟩ := c.def_ 33 (d := d_same_meet) rfl
  have F_same_meet := fun_of (st := s_same_meet) FD_same_meet rfl
  have G_same_meet : mg "same_meet" = some (.ref (He.ga K "same_meet")) := He.glo_ok X G (c.fact 33 (f := .glo "same_meet") rfl)
  obtain ⟨fd_all_meet, FD_all_meet⟩ := c.def_ 34 (d := d_all_meet) rfl
  have F_all_meet := fun_of (st := s_all_meet) FD_all_meet rfl
  have G_all_meet : mg "all_meet" = some (.ref (He.ga K "all_meet")) := He.glo_ok X G (c.fact 34 (f := .glo "all_meet") rfl)
  obtain ⟨fd_teeth_met, FD_teeth_met⟩ := c.def_ 35 (d := d_teeth_met) rfl
  have F_teeth_met := fun_of (st := s_teeth_met) FD_teeth_met rfl
  have G_teeth_met : mg "teeth_met" = some (.ref (He.ga K "teeth_met")) := He.glo_ok X G (c.fact 35 (f := .glo "teeth_met") rfl)
  obtain ⟨fd_law_are_marks_right, FD_law_are_marks_right⟩ := c.def_ 36 (d := d_law_are_marks_right) rfl
  have F_law_are_marks_right := fun_of (st := s_law_are_marks_right) FD_law_are_marks_right rfl
  have G_law_are_marks_right : mg "_law_are_marks_right" = some (.ref (He.ga K "_law_are_marks_right")) := He.glo_ok X G (c.fact 36 (f := .glo "_law_are_marks_right") rfl)
  obtain ⟨fd_all_due, FD_all_due⟩ := c.def_ 37 (d := d_all_due) rfl
  have F_all_due := fun_of (st := s_all_due) FD_all_due rfl
  have G_all_due : mg "all_due" = some (.ref (He.ga K "all_due")) := He.glo_ok X G (c.fact 37 (f := .glo "all_due") rfl)
  obtain ⟨fd_stand_many, FD_stand_many⟩ := c.def_ 38 (d := d_stand_many) rfl
  have F_stand_many := fun_of (st := s_stand_many) FD_stand_many rfl
  have G_stand_many : mg "stand_many" = some (.ref (He.ga K "stand_many")) := He.glo_ok X G (c.fact 38 (f := .glo "stand_many") rfl)
  obtain ⟨fd_visits_many, FD_visits_many⟩ := c.def_ 39 (d := d_visits_many) rfl
  have F_visits_many := fun_of (st := s_visits_many) FD_visits_many rfl
  have G_visits_many : mg "visits_many" = some (.ref (He.ga K "visits_many")) := He.glo_ok X G (c.fact 39 (f := .glo "visits_many") rfl)
  obtain ⟨fd_saved_visits, FD_saved_visits⟩ := c.def_ 40 (d := d_saved_visits) rfl
  have F_saved_visits := fun_of (st := s_saved_visits) FD_saved_visits rfl
  have G_saved_visits : mg "saved_visits" = some (.ref (He.ga K "saved_visits")) := He.glo_ok X G (c.fact 40 (f := .glo "saved_visits") rfl)
  obtain ⟨fd_turns_after, FD_turns_after⟩ := c.def_ 41 (d := d_turns_after) rfl
  have F_turns_after := fun_of (st := s_turns_after) FD_turns_after rfl
  have G_turns_after : mg "turns_after" = some (.ref (He.ga K "turns_after")) := He.glo_ok X G (c.fact 41 (f := .glo "turns_after") rfl)
  obtain ⟨fd_law_any, FD_law_any⟩ := c.def_ 42 (d := d_law_any) rfl
  have F_law_any := fun_of (st := s_law_any) FD_law_any rfl
  have G_law_any : mg "_law_any" = some (.ref (He.ga K "_law_any")) := He.glo_ok X G (c.fact 42 (f := .glo "_law_any") rfl)
  obtain ⟨fd_law_right, FD_law_right⟩ := c.def_ 43 (d := d_law_right) rfl
  have F_law_right := fun_of (st := s_law_right) FD_law_right rfl
  have G_law_right : mg "_law_right" = some (.ref (He.ga K "_law_right")) := He.glo_ok X G (c.fact 43 (f := .glo "_law_right") rfl)
  have G_law : mg "law" = some (.ref (He.ga K "law")) := He.glo_ok X G (c.fact 44 (f := .glo "law") rfl)
  have D_law_hand := Gen.F_law_hand (P := P) (w := w) (K := K) (mg := mg) (base := base) F_law_hand (F_law_hand.binds (ps := ["script"]) fun _ _ _ _ _ _ us hl => match us, hl with | [_], _ => rfl) G_law_hand (He.free_ok X G (c.fact 45 (f := .free "len") rfl)) (He.free_ok X G (c.fact 46 (f := .free "int") rfl)) (He.free_ok X G (c.fact 47 (f := .free "abs") rfl)) K97.l_law_hand
  have D_is_integer := Gen.F_is_integer (P := P) (w := w) (K := K) (mg := mg) (base := base) F_is_integer (F_is_integer.binds (ps := ["thing"]) fun _ _ _ _ _ _ us hl => match us, hl with | [_], _ => rfl) G_is_integer (He.free_ok X G (c.fact 48 (f := .free "isinstance") rfl)) (He.free_ok X G (c.fact 49 (f := .free "bool") rfl)) (He.free_ok X G (c.fact 46 (f := .free "int") rfl)) K97.l_is_integer
  have D_is_within := Gen.F_is_within (P := P) (w := w) (K := K) (mg := mg) (base := base) F_is_within (F_is_within.binds (ps := ["thing", "least", "most"]) fun _ _ _ _ _ _ us hl => match us, hl with | [_, _, _], _ => rfl) G_is_within D_is_integer K97.l_is_within
  have D_is_row := Gen.F_is_row (P := P) (w := w) (K := K) (mg := mg) (base := base) F_is_row (F_is_row.binds (ps := ["thing", "many", "least", "most"]) fun _ _ _ _ _ _ us hl => match us, hl with | [_, _, _, _], _ => rfl) G_is_row (He.free_ok X G (c.fact 50 (f := .free "all") rfl)) (He.free_ok X G (c.fact 45 (f := .free "len") rfl)) (He.free_ok X G (c.fact 48 (f := .free "isinstance") rfl)) (He.free_ok X G (c.fact 51 (f := .free "tuple") rfl)) D_is_within K97.l_is_row
  have D_is_some := Gen.F_is_some (P := P) (w := w) (K := K) (mg := mg) (base := base) F_is_some (F_is_some.binds (ps := ["thing", "fewest", "most", "floor", "roof"]) fun _ _ _ _ _ _ us hl => match us, hl with | [_, _, _, _, _], _ => rfl) G_is_some (He.free_ok X G (c.fact 45 (f := .free "len") rfl)) (He.free_ok X G (c.fact 48 (f := .free "isinstance") rfl)) (He.free_ok X G (c.fact 51 (f := .free "tuple") rfl)) D_is_row K97.l_is_some
  have D_is_belt := Gen.F_is_belt (P := P) (w := w) (K := K) (mg := mg) (base := base) F_is_belt (F_is_belt.binds (ps := ["thing"]) fun _ _ _ _ _ _ us hl => match us, hl with | [_], _ => rfl) G_is_belt D_is_some K97.l_is_belt
  have D_check_belt := Gen.F_check_belt (P := P) (w := w) (K := K) (mg := mg) (base := base) F_check_belt (F_check_belt.binds (ps := ["belt"]) fun _ _ _ _ _ _ us hl => match us, hl with | [_], _ => rfl) G_check_belt D_is_belt K97.l_check_belt
  have D_shared := Gen.F_shared (P := P) (w := w) (K := K) (mg := mg) (base := base) F_shared (F_shared.binds (ps := ["one", "other"]) fun _ _ _ _ _ _ us hl => match us, hl with | [_, _], _ => rfl) G_shared (He.free_ok X G (c.fact 47 (f := .free "abs") rfl)) K97.l_shared
  have D_round_of := Gen.F_round_of (P := P) (w := w) (K := K) (mg := mg) (base := base) F_round_of (F_round_of.binds (ps := ["belt"]) fun _ _ _ _ _ _ us hl => match us, hl with | [_], _ => rfl) G_round_of D_shared D_check_belt K97.l_round_of
  have D_check_moved := Gen.F_check_moved (P := P) (w := w) (K := K) (mg := mg) (base := base) F_check_moved (F_check_moved.binds (ps := ["moved"]) fun _ _ _ _ _ _ us hl => match us, hl with | [_], _ => rfl) G_check_moved D_is_within K97.l_check_moved
  have D_marks_after := Gen.F_marks_after (P := P) (w := w) (K := K) (mg := mg) (base := base) F_marks_after (F_marks_after.binds (ps := ["belt", "moved"]) fun _ _ _ _ _ _ us hl => match us, hl with | [_, _], _ => rfl) G_marks_after (He.free_ok X G (c.fact 51 (f := .free "tuple") rfl)) D_check_moved D_check_belt K97.l_marks_after
  have D_marks_all := Gen.F_marks_all (P := P) (w := w) (K := K) (mg := mg) (base := base) F_marks_all (F_marks_all.binds (ps := ["belt", "many"]) fun _ _ _ _ _ _ us hl => match us, hl with | [_, _], _ => rfl) G_marks_all (He.free_ok X G (c.fact 52 (f := .free "range") rfl)) D_marks_after D_is_within D_check_belt K97.l_marks_all
  have D_is_service := Gen.F_is_service (P := P) (w := w) (K := K) (mg := mg) (base := base) F_is_service (F_is_service.binds (ps := ["thing"]) fun _ _ _ _ _ _ us hl => match us, hl with | [_], _ => rfl) G_is_service (He.free_ok X G (c.fact 45 (f := .free "len") rfl)) (He.free_ok X G (c.fact 48 (f := .free "isinstance") rfl)) (He.free_ok X G (c.fact 51 (f := .free "tuple") rfl)) D_is_within K97.l_is_service
  obtain ⟨t_MOST, k_MOST⟩ := He.int_ok X G (c.fact 53 (f := .int "MOST" 1000) rfl)
  have D_check_service := Gen.F_check_service (P := P) (w := w) (K := K) (mg := mg) (base := base) F_check_service (F_check_service.binds (ps := ["service", "days"]) fun _ _ _ _ _ _ us hl => match us, hl with | [_, _], _ => rfl) G_check_service k_MOST D_is_within D_is_service K97.l_check_service
  have D_next_due := Gen.F_next_due (P := P) (w := w) (K := K) (mg := mg) (base := base) F_next_due (F_next_due.binds (ps := ["service", "day"]) fun _ _ _ _ _ _ us hl => match us, hl with | [_, _], _ => rfl) G_next_due (He.free_ok X G (c.fact 54 (f := .free "enumerate") rfl)) (He.free_ok X G (c.fact 51 (f := .free "tuple") rfl)) (He.free_ok X G (c.fact 55 (f := .free "min") rfl)) D_check_service K97.l_next_due
  have D_law_draw := Gen.F_law_draw (P := P) (w := w) (K := K) (mg := mg) (base := base) F_law_draw (F_law_draw.binds (ps := ["hand", "many"]) fun _ _ _ _ _ _ us hl => match us, hl with | [_, _], _ => rfl) G_law_draw (He.free_ok X G (c.fact 46 (f := .free "int") rfl)) (He.free_ok X G (c.fact 45 (f := .free "len") rfl)) K97.l_law_draw
  have D_plain_days := Gen.F_plain_days (P := P) (w := w) (K := K) (mg := mg) (base := base) F_plain_days (F_plain_days.binds (ps := ["service", "days"]) fun _ _ _ _ _ _ us hl => match us, hl with | [_, _], _ => rfl) G_plain_days (He.free_ok X G (c.fact 51 (f := .free "tuple") rfl)) (He.free_ok X G (c.fact 52 (f := .free "range") rfl)) D_check_service K97.l_plain_days
  have D_plain_visits := Gen.F_plain_visits (P := P) (w := w) (K := K) (mg := mg) (base := base) F_plain_visits (F_plain_visits.binds (ps := ["service", "days"]) fun _ _ _ _ _ _ us hl => match us, hl with | [_, _], _ => rfl) G_plain_visits (He.free_ok X G (c.fact 56 (f := .free "list") rfl)) (He.free_ok X G (c.fact 57 (f := .free "sorted") rfl)) (He.free_ok X G (c.fact 51 (f := .free "tuple") rfl)) D_plain_days K97.l_plain_visits
  have D_plain_many := Gen.F_plain_many (P := P) (w := w) (K := K) (mg := mg) (base := base) F_plain_many (F_plain_many.binds (ps := ["service", "days"]) fun _ _ _ _ _ _ us hl => match us, hl with | [_, _], _ => rfl) G_plain_many D_shared D_check_service K97.l_plain_many
  have D_due_on := Gen.F_due_on (P := P) (w := w) (K := K) (mg := mg) (base := base) F_due_on (F_due_on.binds (ps := ["service", "day"]) fun _ _ _ _ _ _ us hl => match us, hl with | [_, _], _ => rfl) G_due_on (He.free_ok X G (c.fact 54 (f := .free "enumerate") rfl)) (He.free_ok X G (c.fact 51 (f := .free "tuple") rfl)) D_check_service K97.l_due_on
  have D_joined_visits := Gen.F_joined_visits (P := P) (w := w) (K := K) (mg := mg) (base := base) F_joined_visits (F_joined_visits.binds (ps := ["service", "days"]) fun _ _ _ _ _ _ us hl => match us, hl with | [_, _], _ => rfl) G_joined_visits (He.free_ok X G (c.fact 51 (f := .free "tuple") rfl)) (He.free_ok X G (c.fact 54 (f := .free "enumerate") rfl)) (He.free_ok X G (c.fact 58 (f := .free "zip") rfl)) (He.free_ok X G (c.fact 55 (f := .free "min") rfl)) (He.free_ok X G (c.fact 45 (f := .free "len") rfl)) D_check_service K97.l_joined_visits
  have D_done_many := Gen.F_done_many (P := P) (w := w) (K := K) (mg := mg) (base := base) F_done_many (F_done_many.binds (ps := ["service", "days"]) fun _ _ _ _ _ _ us hl => match us, hl with | [_, _], _ => rfl) G_done_many (He.free_ok X G (c.fact 52 (f := .free "range") rfl)) (He.free_ok X G (c.fact 45 (f := .free "len") rfl)) (He.free_ok X G (c.fact 51 (f := .free "tuple") rfl)) D_joined_visits K97.l_done_many
  have D_sooner_of := Gen.F_sooner_of (P := P) (w := w) (K := K) (mg := mg) (base := base) F_sooner_of (F_sooner_of.binds (ps := ["service", "days", "kilometers"]) fun _ _ _ _ _ _ us hl => match us, hl with | [_, _, _], _ => rfl) G_sooner_of (He.free_ok X G (c.fact 51 (f := .free "tuple") rfl)) (He.free_ok X G (c.fact 55 (f := .free "min") rfl)) D_is_within D_check_service K97.l_sooner_of
  have D_check_marks := Gen.F_check_marks (P := P) (w := w) (K := K) (mg := mg) (base := base) F_check_marks (F_check_marks.binds (ps := ["belt", "marks"]) fun _ _ _ _ _ _ us hl => match us, hl with | [_, _], _ => rfl) G_check_marks (He.free_ok X G (c.fact 58 (f := .free "zip") rfl)) (He.free_ok X G (c.fact 50 (f := .free "all") rfl)) (He.free_ok X G (c.fact 45 (f := .free "len") rfl)) (He.free_ok X G (c.fact 48 (f := .free "isinstance") rfl)) (He.free_ok X G (c.fact 51 (f := .free "tuple") rfl)) D_is_within D_check_belt K97.l_check_marks
  have D_marks_stand := Gen.F_marks_stand (P := P) (w := w) (K := K) (mg := mg) (base := base) F_marks_stand (F_marks_stand.binds (ps := ["belt", "marks"]) fun _ _ _ _ _ _ us hl => match us, hl with | [_, _], _ => rfl) G_marks_stand (He.free_ok X G (c.fact 58 (f := .free "zip") rfl)) (He.free_ok X G (c.fact 52 (f := .free "range") rfl)) (He.free_ok X G (c.fact 45 (f := .free "len") rfl)) D_shared D_check_marks K97.l_marks_stand
  have D_next_stand := Gen.F_next_stand (P := P) (w := w) (K := K) (mg := mg) (base := base) F_next_stand (F_next_stand.binds (ps := ["belt", "marks", "moved"]) fun _ _ _ _ _ _ us hl => match us, hl with | [_, _, _], _ => rfl) G_next_stand D_round_of D_check_moved D_marks_stand K97.l_next_stand
  have D_all_agree := Gen.F_all_agree (P := P) (w := w) (K := K) (mg := mg) (base := base) F_all_agree (F_all_agree.binds (ps := ["belt", "marks", "wheels"]) fun _ _ _ _ _ _ us hl => match us, hl with | [_, _, _], _ => rfl) G_all_agree D_shared K97.l_all_agree
  have D_slips_for := Gen.F_slips_for (P := P) (w := w) (K := K) (mg := mg) (base := base) F_slips_for (F_slips_for.binds (ps := ["belt", "marks"]) fun _ _ _ _ _ _ us hl => match us, hl with | [_, _], _ => rfl) G_slips_for (He.free_ok X G (c.fact 45 (f := .free "len") rfl)) (He.free_ok X G (c.fact 57 (f := .free "sorted") rfl)) (He.free_ok X G (c.fact 52 (f := .free "range") rfl)) D_all_agree D_check_marks K97.l_slips_for
  have D_never_many := Gen.F_never_many (P := P) (w := w) (K := K) (mg := mg) (base := base) F_never_many (F_never_many.binds (ps := ["belt"]) fun _ _ _ _ _ _ us hl => match us, hl with | [_], _ => rfl) G_never_many D_round_of D_check_belt K97.l_never_many
  have D_slipped := Gen.F_slipped (P := P) (w := w) (K := K) (mg := mg) (base := base) F_slipped (F_slipped.binds (ps := ["belt", "marks", "wheel", "teeth"]) fun _ _ _ _ _ _ us hl => match us, hl with | [_, _, _, _], _ => rfl) G_slipped (He.free_ok X G (c.fact 45 (f := .free "len") rfl)) D_is_within D_check_marks K97.l_slipped
  have D_is_marks_stand := Gen.F_is_marks_stand (P := P) (w := w) (K := K) (mg := mg) (base := base) F_is_marks_stand (F_is_marks_stand.binds (ps := ["belt", "marks", "thing"]) fun _ _ _ _ _ _ us hl => match us, hl with | [_, _, _], _ => rfl) G_is_marks_stand (He.free_ok X G (c.fact 45 (f := .free "len") rfl)) (He.free_ok X G (c.fact 58 (f := .free "zip") rfl)) (He.free_ok X G (c.fact 50 (f := .free "all") rfl)) (He.free_ok X G (c.fact 48 (f := .free "isinstance") rfl)) (He.free_ok X G (c.fact 59 (f := .free "str") rfl)) (He.free_ok X G (c.fact 51 (f := .free "tuple") rfl)) D_shared D_is_some D_is_within D_round_of D_check_marks K97.l_is_marks_stand
  have D_wheel_between := Gen.F_wheel_between (P := P) (w := w) (K := K) (mg := mg) (base := base) F_wheel_between (F_wheel_between.binds (ps := ["belt", "one", "other"]) fun _ _ _ _ _ _ us hl => match us, hl with | [_, _, _], _ => rfl) G_wheel_between (He.free_ok X G (c.fact 45 (f := .free "len") rfl)) D_shared D_is_within D_check_belt K97.l_wheel_between
  have D_check_teeth := fun (n : Nat) (hn : n ≤ 1000) => Gen.F_check_teeth (P := P) (w := w) (K := K) (mg := mg) (base := base) (n := n) F_check_teeth G_check_teeth (He.free_ok X G (c.fact 50 (f := .free "all") rfl)) D_is_within (fun _ _ _ _ _ _ _ us rest hl => match us, rest, hl with | [], [], _ => rfl | [], _ :: _, _ => rfl) hn K97.l_check_teeth
  have D_same_meet := Gen.F_same_meet (P := P) (w := w) (K := K) (mg := mg) (base := base) F_same_meet (F_same_meet.binds (ps := ["one", "other"]) fun _ _ _ _ _ _ us hl => match us, hl with | [_, _], _ => rfl) G_same_meet D_shared (D_check_teeth 2 (by decide)) K97.l_same_meet
  have D_all_meet := Gen.F_all_meet (P := P) (w := w) (K := K) (mg := mg) (base := base) F_all_meet (F_all_meet.binds (ps := ["one", "other"]) fun _ _ _ _ _ _ us hl => match us, hl with | [_, _], _ => rfl) G_all_meet D_shared (D_check_teeth 2 (by decide)) K97.l_all_meet
  have D_teeth_met := Gen.F_teeth_met (P := P) (w := w) (K := K) (mg := mg) (base := base) F_teeth_met (F_teeth_met.binds (ps := ["one", "other", "tooth"]) fun _ _ _ _ _ _ us hl => match us, hl with | [_, _, _], _ => rfl) G_teeth_met (He.free_ok X G (c.fact 52 (f := .free "range") rfl)) (He.free_ok X G (c.fact 51 (f := .free "tuple") rfl)) D_shared D_is_within (D_check_teeth 2 (by decide)) K97.l_teeth_met
  have D_law_are_marks_right := Gen.F_law_are_marks_right (P := P) (w := w) (K := K) (mg := mg) (base := base) F_law_are_marks_right (F_law_are_marks_right.binds (ps := ["hand", "belt", "whole"]) fun _ _ _ _ _ _ us hl => match us, hl with | [_, _, _], _ => rfl) G_law_are_marks_right (He.free_ok X G (c.fact 50 (f := .free "all") rfl)) (He.free_ok X G (c.fact 46 (f := .free "int") rfl)) (He.free_ok X G (c.fact 51 (f := .free "tuple") rfl)) (He.free_ok X G (c.fact 45 (f := .free "len") rfl)) (He.free_ok X G (c.fact 52 (f := .free "range") rfl)) (He.free_ok X G (c.fact 55 (f := .free "min") rfl)) D_marks_stand D_slipped D_slips_for D_round_of D_wheel_between D_all_meet D_never_many D_same_meet D_teeth_met D_next_stand D_law_draw D_is_marks_stand D_marks_after K97.l_law_are_marks_right
  have D_all_due := Gen.F_all_due (P := P) (w := w) (K := K) (mg := mg) (base := base) F_all_due (F_all_due.binds (ps := ["service"]) fun _ _ _ _ _ _ us hl => match us, hl with | [_], _ => rfl) G_all_due D_shared D_check_service K97.l_all_due
  have D_stand_many := Gen.F_stand_many (P := P) (w := w) (K := K) (mg := mg) (base := base) F_stand_many (F_stand_many.binds (ps := ["belt", "moved"]) fun _ _ _ _ _ _ us hl => match us, hl with | [_, _], _ => rfl) G_stand_many D_round_of D_check_moved K97.l_stand_many
  have D_visits_many := Gen.F_visits_many (P := P) (w := w) (K := K) (mg := mg) (base := base) F_visits_many (F_visits_many.binds (ps := ["service", "days"]) fun _ _ _ _ _ _ us hl => match us, hl with | [_, _], _ => rfl) G_visits_many (He.free_ok X G (c.fact 45 (f := .free "len") rfl)) D_joined_visits K97.l_visits_many
  have D_saved_visits := Gen.F_saved_visits (P := P) (w := w) (K := K) (mg := mg) (base := base) F_saved_visits (F_saved_visits.binds (ps := ["service", "days"]) fun _ _ _ _ _ _ us hl => match us, hl with | [_, _], _ => rfl) G_saved_visits (He.free_ok X G (c.fact 45 (f := .free "len") rfl)) D_plain_visits D_visits_many K97.l_saved_visits
  have D_turns_after := Gen.F_turns_after (P := P) (w := w) (K := K) (mg := mg) (base := base) F_turns_after (F_turns_after.binds (ps := ["belt", "moved"]) fun _ _ _ _ _ _ us hl => match us, hl with | [_, _], _ => rfl) G_turns_after (He.free_ok X G (c.fact 51 (f := .free "tuple") rfl)) D_check_moved D_check_belt K97.l_turns_after
  have D_law_any := Gen.F_law_any (P := P) (w := w) (K := K) (mg := mg) (base := base) F_law_any (F_law_any.binds (ps := ["hand", "some"]) fun _ _ _ _ _ _ us hl => match us, hl with | [_, _], _ => rfl) G_law_any (He.free_ok X G (c.fact 45 (f := .free "len") rfl)) D_law_draw K97.l_law_any
  have D_law_right := Gen.F_law_right (P := P) (w := w) (K := K) (mg := mg) (base := base) F_law_right (F_law_right.binds (ps := ["hand"]) fun _ _ _ _ _ _ us hl => match us, hl with | [_], _ => rfl) G_law_right (He.free_ok X G (c.fact 51 (f := .free "tuple") rfl)) (He.free_ok X G (c.fact 52 (f := .free "range") rfl)) (He.free_ok X G (c.fact 45 (f := .free "len") rfl)) (He.free_ok X G (c.fact 60 (f := .free "any") rfl)) (He.free_ok X G (c.fact 54 (f := .free "enumerate") rfl)) D_law_are_marks_right D_saved_visits D_sooner_of D_law_draw D_joined_visits D_plain_visits D_done_many D_turns_after D_plain_days D_marks_after D_next_due D_due_on D_plain_many D_marks_all D_stand_many D_all_due D_round_of D_law_any K97.l_law_right
  exact O_law (P := P) (w := w) (K := K) (mg := mg) (base := base) F_law (F_law.binds (ps := ["script"]) fun _ _ _ _ _ _ us hl => match us, hl with | [_], _ => rfl) G_law (He.free_ok X G (c.fact 52 (f := .free "range") rfl)) (He.free_ok X G (c.fact 50 (f := .free "all") rfl)) D_law_right D_law_hand K97.l_law
theorem facts {P : Program} {w : World} {K : PySem.W.Frag} {h : Heap} {mg : Str → Option Value} {f : Addr} (X : K.In h) (G : h.Ns mainGlobals mg) (hfa : mg ("law" : Str) = some (.ref f)) (c : He.SaysD fa fn K) :
    ∃ fd : FuncData, (∀ (s : Shared) (v : Value), BindsTo s fd ⟨[v], []⟩ [("script", v)]) ∧ ∀ base : Heap, K.In base → base.Ns mainGlobals mg → FnOk P w K mg base CX0 12 f fd ["script"] (spP K 1 K97.c_law) := by
  obtain ⟨fd, F⟩ := c.def_ 44 (d := d_law) rfl
  have e := hfa.symm.trans (He.glo_ok X G (c.fact 44 (f := .glo "law") rfl))
  cases e
  have b := FunD.bindsA (ps := ["script"]) F fun _ _ _ _ _ _ us hl => match us, hl with | [_], _ => rfl
  exact ⟨fd, fun s v => b s [v] rfl, fun base XB GB => facts_ok X G c (fun_of (st := s_law) F rfl) base XB GB⟩
end Head
open PySem PySem.W PyProof.Rows
set_option maxHeartbeats 0 in
theorem PySem.Challenge.cw_mendgarage_k97_whole_services_as_wheels_holds : PySem.Challenge.rw_mendgarage_k97_whole_services_as_wheels.Holds := by
  w_on; o_law
  refine HandSHeadRun.head_any (r := OpenLaw.row PySem.Challenge.rw_mendgarage_k97_whole_services_as_wheels) (q := view (OpenLaw.row PySem.Challenge.rw_mendgarage_k97_whole_services_as_wheels).prog [61]) (H := Head.hk) (ob := Head.ob) (M := 4000) (loose := Head.loose) (d := HandSHeadRun.topDef (OpenLaw.row PySem.Challenge.rw_mendgarage_k97_whole_services_as_wheels).prog 61) (kwd := []) Head.ob_eq
    (by kernel_rfl) (fun s => by kernel_rfl) Head.run (by kernel_rfl) (by kernel_rfl) (by kernel_rfl) (by rfl) (by first | assumption | decide +kernel) (by decide +kernel) ⟨rfl, rfl, rfl, rfl, rfl, by decide +kernel⟩ ?hw ?hc
  case hw => w_witness2
  case hc =>
    refine L2.walk_ofE (l := PySem.Challenge.rw_mendgarage_k97_whole_services_as_wheels) (n := 63) (k := 12) (x := "script") (CX := L2.CX0) rfl (by decide) (by kernel_rfl) ⟨rfl, by decide, by decide⟩ ?F (fun _ _ _ _ z => z)
    intro w mg fa h Y G hmg0
    obtain ⟨K, KX, c⟩ := Y
    have hmg : mg ("law" : PySem.Str) = some (.ref fa) := by
      have e : (HandSHeadRun.topDef (OpenLaw.row PySem.Challenge.rw_mendgarage_k97_whole_services_as_wheels).prog 61).name = ("law" : PySem.Str) := by kernel_rfl
      rw [← e]
      exact hmg0
    obtain ⟨fd, hb, hF⟩ := Head.facts (P := (PySem.Challenge.rw_mendgarage_k97_whole_services_as_wheels).prog) (w := w) KX G hmg c
    exact ⟨K, fd, Pd.spP K 1 K97.c_law, KX, hb, Pd.law_says K97.c_law_says, hF⟩

