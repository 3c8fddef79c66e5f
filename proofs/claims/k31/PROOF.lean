import PyProof.Rows.All
import Wide.All
import OpenK.AllK
import Wide.FinOn
import HandS.ForMost
import HandS.Walk
import HandS.IsInst
import HandS.Gcd
import HandS.Wide
import HandS.Zip
import HandS.TupAny
import HandS.TupLen
import HandS.Conv
import HandS.Deep
import KE.KDictWalk
import HandS.More
import KE.SortData
import PyProof.ReprRoads
import PyProof.TupleOfSeq
import PyProof.DictMoreH
import KE.KDictDisplayH
import KE.GoesEnum
import KE.GoesZip
import KE.GoesMore
import KE.KDictZip
import KE.KDictPairs
import KE.KDictCopyH
import HandS.DictComp
import HandS.Ends
import HandS.Words
import PySem.Challenge.RW_skyplates_k31_whole_cells_of_lots
import HandS.List
set_option Elab.async false
set_option autoImplicit false
set_option linter.all false
set_option maxHeartbeats 4000000
set_option maxRecDepth 100000
/-! Sk1: contexts of known slots and owned cells over the hand layer; the judgements Ev, EvT, EvA, Sx; one promise form spW. -/
namespace Sk
open PySem PySem.Spec PyProof.Rows L2

/-! ### data: flat values and tuples -/
mutual
inductive Dt (H : Hp) : V → PyData → Prop
  | non : Dt H .non .none
  | bl (b : Bool) : Dt H (.bl b) (.bool b)
  | int (i : Int) : Dt H (.int i) (.int i)
  | str (x : Str) : Dt H (.str x) (.str x)
  | tup {a : Addr} {xs : List V} {ds : List PyData} : H a = some (.tup xs) → DtL H xs ds → Dt H (.ref a) (.tuple ds)
inductive DtL (H : Hp) : List V → List PyData → Prop
  | nil : DtL H [] []
  | cons {v : V} {vs : List V} {d : PyData} {ds : List PyData} : Dt H v d → DtL H vs ds → DtL H (v :: vs) (d :: ds)
end
/-- what stands outside S is kept -/
def Grow (S : List Addr) (H H' : Hp) : Prop := ∀ a o, H a = some o → a ∉ S → H' a = some o
theorem Grow.refl (S : List Addr) (H : Hp) : Grow S H H := fun _ _ h _ => h
theorem Grow.trans {S : List Addr} {H H1 H2 : Hp} (a : Grow S H H1) (b : Grow S H1 H2) : Grow S H H2 := fun x o h n => b x o (a x o h n) n
theorem Grow.sub {S T : List Addr} {H H' : Hp} (h : ∀ a ∈ S, a ∈ T) (g : Grow S H H') : Grow T H H' := fun a o e n => g a o e fun z => n (h a z)
theorem Grow.new {S : List Addr} {H : Hp} {p : Addr} {o : HO} (h : H p = none) : Grow S H (upd H p o) := fun a u e _ => by
  rw [upd_ne (ne_of_none e h)]; exact e
theorem Grow.put {S : List Addr} {H : Hp} {p : Addr} {o : HO} (h : p ∈ S) : Grow S H (upd H p o) := fun a u e n => by
  rw [upd_ne (fun z => n (by rw [z]; exact h))]; exact e
theorem Grow.of_same {S : List Addr} {H H' : Hp} (s : ∀ a o, H a = some o → H' a = some o) : Grow S H H' := fun a o e _ => s a o e
/-- no tuple stands at these -/
def NoT (S : List Addr) (H : Hp) : Prop := ∀ s ∈ S, ∀ xs, H s ≠ some (.tup xs)
mutual
theorem Dt.grow {S : List Addr} {H H' : Hp} (g : Grow S H H') (n : NoT S H) : ∀ {v : V} {d : PyData}, Dt H v d → Dt H' v d
  | _, _, .non => .non
  | _, _, .bl b => .bl b
  | _, _, .int i => .int i
  | _, _, .str x => .str x
  | _, _, .tup e h => .tup (g _ _ e fun z => n _ z _ e) (DtL.grow g n h)
theorem DtL.grow {S : List Addr} {H H' : Hp} (g : Grow S H H') (n : NoT S H) : ∀ {vs : List V} {ds : List PyData}, DtL H vs ds → DtL H' vs ds
  | _, _, .nil => .nil
  | _, _, .cons a b => .cons (Dt.grow g n a) (DtL.grow g n b)
end
mutual
theorem Dt.dp {K : PySem.W.Frag} {H : Hp} : ∀ {v : V} {d : PyData}, Dt H v d → Dp K H v d
  | _, _, .non => .non
  | _, _, .bl b => .bl b
  | _, _, .int i => .int i
  | _, _, .str x => .str x
  | _, _, .tup e h => .tup (SqT.of e) (DtL.dp h)
theorem DtL.dp {K : PySem.W.Frag} {H : Hp} : ∀ {vs : List V} {ds : List PyData}, DtL H vs ds → DpAll K H vs ds
  | _, _, .nil => .nil
  | _, _, .cons a b => .cons (Dt.dp a) (DtL.dp b)
end
theorem DtL.length {H : Hp} : ∀ {vs : List V} {ds : List PyData}, DtL H vs ds → vs.length = ds.length
  | _, _, .nil => rfl
  | _, _, .cons _ b => by rw [List.length_cons, List.length_cons, DtL.length b]
theorem DtL.get {H : Hp} : ∀ {vs : List V} {ds : List PyData} {i : Nat} {d : PyData}, DtL H vs ds → ds[i]? = some d → ∃ v, vs[i]? = some v ∧ Dt H v d
  | _, _, _, _, .nil, e => by simp at e
  | _, _, 0, _, .cons a b, e => by simp at e; subst e; exact ⟨_, rfl, a⟩
  | _, _, i + 1, d, .cons a b, e => by
    obtain ⟨v, h1, h2⟩ := DtL.get (i := i) (d := d) b (by simpa using e)
    exact ⟨v, by simpa using h1, h2⟩
theorem DtL.get' {H : Hp} : ∀ {vs : List V} {ds : List PyData} {i : Nat} {v : V}, DtL H vs ds → vs[i]? = some v → ∃ d, ds[i]? = some d ∧ Dt H v d
  | _, _, _, _, .nil, e => by simp at e
  | _, _, 0, _, .cons a b, e => by simp at e; subst e; exact ⟨_, rfl, a⟩
  | _, _, i + 1, d, .cons a b, e => by
    obtain ⟨v, h1, h2⟩ := DtL.get' (i := i) (v := d) b (by simpa using e)
    exact ⟨v, by simpa using h1, h2⟩
theorem DtL.append {H : Hp} : ∀ {vs ws : List V} {ds es : List PyData}, DtL H vs ds → DtL H ws es → DtL H (vs ++ ws) (ds ++ es)
  | _, _, _, _, .nil, k => k
  | _, _, _, _, .cons a b, k => .cons a (DtL.append b k)
theorem DtL.take {H : Hp} : ∀ {vs : List V} {ds : List PyData} (n : Nat), DtL H vs ds → DtL H (vs.take n) (ds.take n)
  | _, _, 0, _ => by simp only [List.take_zero]; exact .nil
  | _, _, _ + 1, .nil => by simp only [List.take_nil]; exact .nil
  | _, _, n + 1, .cons a b => by simp only [List.take_succ_cons]; exact .cons a (DtL.take n b)
theorem DtL.drop {H : Hp} : ∀ {vs : List V} {ds : List PyData} (n : Nat), DtL H vs ds → DtL H (vs.drop n) (ds.drop n)
  | _, _, 0, h => by simpa using h
  | _, _, _ + 1, .nil => by simp only [List.drop_nil]; exact .nil
  | _, _, n + 1, .cons a b => by simp only [List.drop_succ_cons]; exact DtL.drop n b
theorem DtL.set {H : Hp} {v : V} {d : PyData} (r : Dt H v d) : ∀ {vs : List V} {ds : List PyData} (i : Nat), DtL H vs ds → DtL H (vs.set i v) (ds.set i d)
  | _, _, _, .nil => .nil
  | _, _, 0, .cons _ t => .cons r t
  | _, _, i + 1, .cons q t => .cons q (DtL.set r i t)
theorem DtL.of_ints {H : Hp} : ∀ (ns : List Int), DtL H (ns.map V.int) (ns.map PyData.int)
  | [] => .nil
  | n :: r => .cons (.int n) (DtL.of_ints r)
theorem DtL.ints {H : Hp} : ∀ {vs : List V} {ns : List Int}, DtL H vs (ns.map PyData.int) → vs = ns.map V.int
  | _, [], .nil => rfl
  | _, n :: r, .cons a b => by
    cases a
    rw [DtL.ints b]; rfl
theorem DtL.bools {H : Hp} : ∀ {vs : List V} {bs : List Bool}, DtL H vs (bs.map PyData.bool) → vs = bs.map V.bl
  | _, [], .nil => rfl
  | _, n :: r, .cons a b => by
    cases a
    rw [DtL.bools b]; rfl

/-! ### what is known of a slot, of an owned object -/
inductive Kn where
  | dat (d : PyData)
  | ptr (p : Addr)
  | cls (n : String)
  | pair (x y : Kn)
def Kn.h (H : Hp) : Kn → V → Prop
  | .dat d, v => Dt H v d
  | .ptr p, v => v = .ref p
  | .cls n, v => v = .ty n
  | .pair x y, v => ∃ a u w, v = .ref a ∧ H a = some (.tup [u, w]) ∧ x.h H u ∧ y.h H w
abbrev Tk := List Int
abbrev kI (k : Tk) : List Key := k.map Sum.inl
def PD (H : Hp) : List (List Key × V) → List (Tk × PyData) → Prop := Paired fun p q => p.1 = kI q.1 ∧ Dt H p.2 q.2
def PF (H : Hp) : List (Str × V) → List (Str × PyData) → Prop := Paired fun p q => p.1 = q.1 ∧ Dt H p.2 q.2
inductive Cell where
  /-- a list of data -/
  | lst (xs : List PyData)
  /-- a list of owned objects -/
  | lps (ps : List Addr)
  /-- a dict whose keys are tuples of ints -/
  | dic (kvs : List (Tk × PyData))
  /-- the same, locked -/
  | fz (od : Obj) (ws : List (List Key × V)) (kvs : List (Tk × PyData))
  /-- a list of three ints -/
  | jar
  /-- an instance and its attributes -/
  | ins (C : Addr) (fs : List (Str × PyData))
def Cell.h (H : Hp) (p : Addr) : Cell → Prop
  | .lst xs => ∃ vs, H p = some (.lst vs) ∧ DtL H vs xs
  | .lps ps => H p = some (.lst (ps.map V.ref))
  | .dic kvs => ∃ ws, H p = some (.dT ws) ∧ PD H ws kvs
  | .fz od ws kvs => H p = some (.frz od (.dT ws)) ∧ PD H ws kvs
  | .jar => ∃ a b c : Int, H p = some (.lst [.int a, .int b, .int c])
  | .ins C fs => ∃ dx ws, H p = some (.ins C dx ws) ∧ PF H ws fs
theorem Cell.noT {H : Hp} {p : Addr} {c : Cell} (h : c.h H p) : ∀ xs, H p ≠ some (.tup xs) := by
  intro xs e
  cases c with
  | lst _ => obtain ⟨vs, e', _⟩ := h; rw [e] at e'; cases e'
  | lps ps => rw [show H p = _ from h] at e; cases e
  | dic _ => obtain ⟨vs, e', _⟩ := h; rw [e] at e'; cases e'
  | fz _ _ _ => obtain ⟨e', _⟩ := h; rw [e] at e'; cases e'
  | jar => obtain ⟨_, _, _, e'⟩ := h; rw [e] at e'; cases e'
  | ins _ _ => obtain ⟨_, _, e', _⟩ := h; rw [e] at e'; cases e'
theorem Cell.some {H : Hp} {p : Addr} {c : Cell} (h : c.h H p) : H p ≠ none := by
  intro e
  cases c with
  | lst _ => obtain ⟨vs, e', _⟩ := h; rw [e] at e'; cases e'
  | lps ps => rw [show H p = _ from h] at e; cases e
  | dic _ => obtain ⟨vs, e', _⟩ := h; rw [e] at e'; cases e'
  | fz _ _ _ => obtain ⟨e', _⟩ := h; rw [e] at e'; cases e'
  | jar => obtain ⟨_, _, _, e'⟩ := h; rw [e] at e'; cases e'
  | ins _ _ => obtain ⟨_, _, e', _⟩ := h; rw [e] at e'; cases e'
section
variable {S : List Addr} {H H' : Hp}
theorem PD.grow (g : Grow S H H') (n : NoT S H) : ∀ {ws : List (List Key × V)} {kvs : List (Tk × PyData)}, PD H ws kvs → PD H' ws kvs := fun r =>
  Paired.mapP r fun _ _ z => ⟨z.1, z.2.grow g n⟩
theorem PF.grow (g : Grow S H H') (n : NoT S H) : ∀ {ws : List (Str × V)} {kvs : List (Str × PyData)}, PF H ws kvs → PF H' ws kvs := fun r =>
  Paired.mapP r fun _ _ z => ⟨z.1, z.2.grow g n⟩
theorem Kn.grow (g : Grow S H H') (n : NoT S H) {k : Kn} : ∀ {v : V}, k.h H v → k.h H' v := by
  induction k with
  | dat d => intro v h; exact Dt.grow g n h
  | ptr p => intro v h; exact h
  | cls p => intro v h; exact h
  | pair x y hx hy =>
    intro v h
    obtain ⟨a, u, w, e, e1, h1, h2⟩ := h
    exact ⟨a, u, w, e, g _ _ e1 fun z => n _ z _ e1, hx h1, hy h2⟩
theorem Cell.grow (g : Grow S H H') (n : NoT S H) {p : Addr} {c : Cell} (h : c.h H p) (hp : p ∉ S) : c.h H' p := by
  cases c with
  | lst _ => obtain ⟨vs, e, d⟩ := h; exact ⟨vs, g _ _ e hp, d.grow g n⟩
  | lps ps => exact g _ _ h hp
  | dic _ => obtain ⟨vs, e, d⟩ := h; exact ⟨vs, g _ _ e hp, PD.grow g n d⟩
  | fz _ _ _ => obtain ⟨e, d⟩ := h; exact ⟨g _ _ e hp, PD.grow g n d⟩
  | jar => obtain ⟨a, b, c, e⟩ := h; exact ⟨a, b, c, g _ _ e hp⟩
  | ins _ _ => obtain ⟨dx, ws, e, d⟩ := h; exact ⟨dx, ws, g _ _ e hp, PF.grow g n d⟩
end

/-! ### contexts -/
abbrev Cs := List (Addr × Cell)
abbrev Sl := List (Option Kn)
structure Bs where
  A : List Addr
  H0 : Hp
structure Rs (B : Bs) (H : Hp) (σ : L2.St) (ρ : Sl) (O : Cs) (τ : List (V × Kn)) : Prop where
  grow : Grow B.A B.H0 H
  len : σ.length = ρ.length
  slot : ∀ (i : Nat) (k : Kn), ρ[i]? = some (some k) → ∃ v, σ[i]? = some (some v) ∧ k.h H v
  tmp : ∀ q ∈ τ, q.2.h H q.1
  cell : ∀ q ∈ O, q.2.h H q.1
  nd : (O.map (·.1)).Nodup
  own : ∀ q ∈ O, q.1 ∈ B.A ∨ B.H0 q.1 = none
section
variable {B : Bs} {H H' : Hp} {σ : L2.St} {ρ : Sl} {O O' : Cs} {τ τ' : List (V × Kn)} {v : V} {k : Kn} {p : Addr} {c : Cell}
theorem Rs.push (R : Rs B H σ ρ O τ) (h : k.h H v) : Rs B H σ ρ O ((v, k) :: τ) :=
  { R with
    tmp := fun q hq => by
      rcases List.mem_cons.mp hq with e | hq
      · subst e; exact h
      · exact R.tmp q hq }
theorem Rs.sub (R : Rs B H σ ρ O τ) (h : ∀ q ∈ τ', q ∈ τ) : Rs B H σ ρ O τ' := { R with tmp := fun q hq => R.tmp q (h q hq) }
theorem Rs.noT (R : Rs B H σ ρ O τ) : NoT (O.map (·.1)) H := fun s hs => by
  obtain ⟨q, hq, e⟩ := List.mem_map.mp hs
  subst e
  exact Cell.noT (R.cell q hq)
theorem Rs.top (R : Rs B H σ ρ O ((v, k) :: τ)) : k.h H v := R.tmp (v, k) (List.mem_cons_self ..)
theorem Rs.pop (R : Rs B H σ ρ O ((v, k) :: τ)) : Rs B H σ ρ O τ := R.sub fun _ h => List.mem_cons_of_mem _ h
/-- the heap grew, nothing of ours changed -/
theorem Rs.same (R : Rs B H σ ρ O τ) (s : ∀ a o, H a = some o → H' a = some o) : Rs B H' σ ρ O τ where
  grow := R.grow.trans (.of_same s)
  len := R.len
  slot := fun i k e => by
    obtain ⟨v, h1, h2⟩ := R.slot i k e
    exact ⟨v, h1, Kn.grow (S := []) (.of_same s) (fun _ z => nomatch z) h2⟩
  tmp := fun q hq => Kn.grow (S := []) (.of_same s) (fun _ z => nomatch z) (R.tmp q hq)
  cell := fun q hq => Cell.grow (S := []) (.of_same s) (fun _ z => nomatch z) (R.cell q hq) (fun z => nomatch z)
  nd := R.nd
  own := R.own
theorem Rs.new (R : Rs B H σ ρ O τ) (o : HO) (h : H p = none) : Rs B (upd H p o) σ ρ O τ := R.same fun a u e => by
  rw [upd_ne (ne_of_none e h)]; exact e
/-- a new owned object -/
theorem Rs.lay (R : Rs B H σ ρ O τ) (o : HO) (h : H p = none) (hc : c.h (upd H p o) p) : Rs B (upd H p o) σ ρ ((p, c) :: O) τ :=
  have R' := R.new o h
  { R' with
    cell := fun q hq => by
      rcases List.mem_cons.mp hq with e | hq
      · subst e; exact hc
      · exact R'.cell q hq
    nd := by
      rw [List.map_cons]
      refine List.nodup_cons.mpr ⟨fun z => ?_, R.nd⟩
      obtain ⟨q, hq, e⟩ := List.mem_map.mp z
      exact Cell.some (R.cell q hq) (by rw [e]; exact h)
    own := fun q hq => by
      rcases List.mem_cons.mp hq with e | hq
      · subst e
        cases e0 : B.H0 p with
        | none => exact .inr rfl
        | some u =>
          refine .inl (Classical.byContradiction fun n => ?_)
          have := R.grow p u e0 n
          rw [h] at this; cases this
      · exact R.own q hq }
/-- what a call did: the objects Oc became O', all others stand -/
theorem Rs.step {Oc F : Cs} (R : Rs B H σ ρ O τ) (pm : O.Perm (Oc ++ F)) (g : Grow (Oc.map (·.1)) H H') (hc : ∀ q ∈ O', q.2.h H' q.1) (hn : (O'.map (·.1)).Nodup) (ho : ∀ q ∈ O', q.1 ∈ Oc.map (·.1) ∨ H q.1 = none) : Rs B H' σ ρ (O' ++ F) τ := by
  have hin : ∀ s ∈ Oc.map (·.1), s ∈ O.map (·.1) := fun s hs => by
    obtain ⟨q, hq, e⟩ := List.mem_map.mp hs
    exact List.mem_map.mpr ⟨q, pm.mem_iff.mpr (List.mem_append_left _ hq), e⟩
  have nt : NoT (Oc.map (·.1)) H := fun s hs => R.noT s (hin s hs)
  have hF : ∀ q ∈ F, q ∈ O := fun q hq => pm.mem_iff.mpr (List.mem_append_right _ hq)
  have hnd : ((Oc ++ F).map (·.1)).Nodup := (pm.map (·.1)).nodup_iff.mp R.nd
  rw [List.map_append] at hnd
  have hdis := (List.nodup_append.mp hnd).2.2
  have hown : ∀ q ∈ O', q.1 ∈ B.A ∨ B.H0 q.1 = none := fun q hq => by
    rcases ho q hq with z | z
    · obtain ⟨r, hr, e⟩ := List.mem_map.mp z
      rw [← e]
      exact R.own r (pm.mem_iff.mpr (List.mem_append_left _ hr))
    · cases e0 : B.H0 q.1 with
      | none => exact .inr rfl
      | some u =>
        refine .inl (Classical.byContradiction fun n => ?_)
        have := R.grow q.1 u e0 n
        rw [z] at this; cases this
  refine ⟨fun a o e n => ?_, R.len, fun i k e => ?_, fun q hq => Kn.grow g nt (R.tmp q hq), fun q hq => ?_, ?_, fun q hq => ?_⟩
  · have e1 := R.grow a o e n
    by_cases ha : a ∈ Oc.map (·.1)
    · obtain ⟨q, hq, ea⟩ := List.mem_map.mp ha
      rcases R.own q (pm.mem_iff.mpr (List.mem_append_left _ hq)) with z | z
      · exact absurd (by rw [← ea]; exact z) n
      · rw [ea, e] at z; cases z
    · exact g a o e1 ha
  · obtain ⟨v, h1, h2⟩ := R.slot i k e
    exact ⟨v, h1, Kn.grow g nt h2⟩
  · rcases List.mem_append.mp hq with hq | hq
    · exact hc q hq
    · refine Cell.grow g nt (R.cell q (hF q hq)) fun z => ?_
      exact hdis q.1 z q.1 (List.mem_map.mpr ⟨q, hq, rfl⟩) rfl
  · rw [List.map_append]
    refine List.nodup_append.mpr ⟨hn, (List.nodup_append.mp hnd).2.1, fun a ha b hb e => ?_⟩
    subst e
    obtain ⟨q, hq, ea⟩ := List.mem_map.mp ha
    obtain ⟨r, hr, eb⟩ := List.mem_map.mp hb
    rcases ho q hq with z | z
    · exact hdis q.1 z r.1 (List.mem_map.mpr ⟨r, hr, rfl⟩) (by rw [ea, eb])
    · exact Cell.some (R.cell r (hF r hr)) (by rw [eb, ← ea]; exact z)
  · rcases List.mem_append.mp hq with hq | hq
    · exact hown q hq
    · exact R.own q (hF q hq)
theorem Rs.perm (R : Rs B H σ ρ O τ) (pm : O.Perm O') : Rs B H σ ρ O' τ :=
  { R with
    cell := fun q hq => R.cell q (pm.mem_iff.mpr hq)
    nd := (pm.map (·.1)).nodup_iff.mp R.nd
    own := fun q hq => R.own q (pm.mem_iff.mpr hq) }
/-- an owned object is let go -/
theorem Rs.drop (R : Rs B H σ ρ ((p, c) :: O) τ) : Rs B H σ ρ O τ :=
  { R with
    cell := fun q hq => R.cell q (List.mem_cons_of_mem _ hq)
    nd := (List.nodup_cons.mp (by have := R.nd; rwa [List.map_cons] at this)).2
    own := fun q hq => R.own q (List.mem_cons_of_mem _ hq) }
/-- these of those -/
def Sub (O' O : Cs) : Prop := ∃ X, O.Perm (O' ++ X)
theorem sub_refl (O : Cs) : Sub O O := ⟨[], by rw [List.append_nil]⟩
theorem sub_nil (O : Cs) : Sub [] O := ⟨O, .refl _⟩
theorem sub_cons {q : Addr × Cell} {O O' : Cs} (h : Sub O' O) : Sub O' (q :: O) := by
  obtain ⟨X, p⟩ := h
  exact ⟨q :: X, (p.cons q).trans List.perm_middle.symm⟩
theorem sub_keep {q : Addr × Cell} {O O' : Cs} (h : Sub O' O) : Sub (q :: O') (q :: O) := by
  obtain ⟨X, p⟩ := h
  exact ⟨X, p.cons q⟩
theorem Rs.less {F : Cs} (R : Rs B H σ ρ (O ++ F) τ) (h : Sub O' O) : Rs B H σ ρ (O' ++ F) τ := by
  obtain ⟨X, p⟩ := h
  have R2 : Rs B H σ ρ (X ++ (O' ++ F)) τ := R.perm ((p.append_right F).trans (by
    rw [List.append_assoc]
    exact (List.perm_append_comm_assoc O' X F)))
  clear p R
  induction X with
  | nil => exact R2
  | cons q X ih => exact ih R2.drop
/-- an owned object is changed -/
theorem Rs.put (R : Rs B H σ ρ ((p, c) :: O) τ) {c' : Cell} {o : HO} (hc : c'.h (upd H p o) p) : Rs B (upd H p o) σ ρ ((p, c') :: O) τ :=
  R.step (Oc := [(p, c)]) (F := O) (O' := [(p, c')]) (.refl _) (.put (by simp)) (fun q hq => by simp at hq; subst hq; exact hc) (by simp) (fun q hq => by simp at hq; subst hq; simp)
theorem Rs.setS (R : Rs B H σ ρ O ((v, k) :: τ)) (i : Nat) : Rs B H (σ.set i (some v)) (ρ.set i (some k)) O τ :=
  { R with
    len := by rw [List.length_set, List.length_set]; exact R.len
    tmp := fun q hq => R.tmp q (List.mem_cons_of_mem _ hq)
    slot := fun j k' e => by
      by_cases hj : i = j
      · subst hj
        by_cases hi : i < ρ.length
        · rw [List.getElem?_set_self hi] at e
          cases e
          exact ⟨v, List.getElem?_set_self (by rw [R.len]; exact hi), R.top⟩
        · rw [List.getElem?_eq_none (by rw [List.length_set]; omega)] at e; cases e
      · rw [List.getElem?_set_ne hj] at e ⊢
        exact R.slot j k' e }
end
/-- slots forgotten -/
def forget : Sl → List Nat → Sl
  | ρ, [] => ρ
  | ρ, v :: vs => (forget ρ vs).set v none
theorem forget_len (ρ : Sl) : ∀ vs : List Nat, (forget ρ vs).length = ρ.length
  | [] => rfl
  | v :: vs => by unfold forget; rw [List.length_set, forget_len ρ vs]
theorem forget_at {ρ : Sl} {i : Nat} {k : Kn} : ∀ {vs : List Nat}, (forget ρ vs)[i]? = some (some k) → ρ[i]? = some (some k) ∧ i ∉ vs
  | [], h => ⟨h, by simp⟩
  | v :: vs, h => by
    unfold forget at h
    by_cases hi : v = i
    · subst hi
      by_cases hv : v < (forget ρ vs).length
      · rw [List.getElem?_set_self hv] at h; cases h
      · rw [List.getElem?_eq_none (by simpa using hv)] at h; cases h
    · rw [List.getElem?_set_ne hi] at h
      obtain ⟨h1, h2⟩ := forget_at h
      exact ⟨h1, by simp only [List.mem_cons, not_or]; exact ⟨fun e => hi e.symm, h2⟩⟩
theorem wipe_at {σ : L2.St} {i : Nat} {x : V} : ∀ {vs : List Nat}, σ[i]? = some (some x) → i ∉ vs → (wipe σ vs)[i]? = some (some x)
  | [], h, _ => h
  | v :: vs, h, n => by
    simp only [List.mem_cons, not_or] at n
    unfold wipe
    rw [List.getElem?_set_ne (fun e => n.1 e.symm)]
    exact wipe_at h n.2
theorem Rs.wiped {B : Bs} {H : Hp} {σ : L2.St} {ρ : Sl} {O : Cs} {τ : List (V × Kn)} (R : Rs B H σ ρ O τ) (vs : List Nat) : Rs B H (wipe σ vs) (forget ρ vs) O τ :=
  { R with
    len := by rw [wipe_length, forget_len]; exact R.len
    slot := fun i k e => by
      obtain ⟨h1, h2⟩ := forget_at e
      obtain ⟨v, h3, h4⟩ := R.slot i k h1
      exact ⟨v, wipe_at h3 h2, h4⟩ }

/-! ### judgements: with a frame F of other owned objects, and temporaries -/
def Ev (B : Bs) (te : TE) (ρ : Sl) (O : Cs) (Φ : Kn → Cs → Prop) : Prop :=
  ∀ σ H τ F, Rs B H σ ρ (O ++ F) τ → ∀ Q : VK, (∀ v H' k O', Φ k O' → Rs B H' σ ρ (O' ++ F) ((v, k) :: τ) → Q v H') → te σ H Q
def EvT (B : Bs) (tt : TT) (ρ : Sl) (O : Cs) (Φ : Bool → Cs → Prop) : Prop :=
  ∀ σ H τ F, Rs B H σ ρ (O ++ F) τ → ∀ Q : Bool → Hp → Prop, (∀ b H' O', Φ b O' → Rs B H' σ ρ (O' ++ F) τ → Q b H') → tt σ H Q
def EvA (B : Bs) (ta : TA) (ρ : Sl) (O : Cs) (Φ : List Kn → Cs → Prop) : Prop :=
  ∀ σ H τ F, Rs B H σ ρ (O ++ F) τ → ∀ Q : List V → Hp → Prop, (∀ vs H' ks O', Φ ks O' → vs.length = ks.length → Rs B H' σ ρ (O' ++ F) (vs.zip ks ++ τ) → Q vs H') → ta σ H Q
/-- an operation on values that are known -/
def Op2 (B : Bs) (r : R2) (x y : Kn) (O : Cs) (Φ : Kn → Cs → Prop) : Prop :=
  ∀ σ ρ H τ F v w, x.h H v → y.h H w → Rs B H σ ρ (O ++ F) τ → ∀ Q : VK, (∀ u H' k O', Φ k O' → Rs B H' σ ρ (O' ++ F) ((u, k) :: τ) → Q u H') → r v w H Q
def Op1 (B : Bs) (r : V → Hp → VK → Prop) (x : Kn) (O : Cs) (Φ : Kn → Cs → Prop) : Prop :=
  ∀ σ ρ H τ F v, x.h H v → Rs B H σ ρ (O ++ F) τ → ∀ Q : VK, (∀ u H' k O', Φ k O' → Rs B H' σ ρ (O' ++ F) ((u, k) :: τ) → Q u H') → r v H Q
def OpC (B : Bs) (r : List V → Hp → VK → Prop) (ks : List Kn) (O : Cs) (Φ : Kn → Cs → Prop) : Prop :=
  ∀ σ ρ H τ F vs, vs.length = ks.length → (∀ q ∈ vs.zip ks, q.2.h H q.1) → Rs B H σ ρ (O ++ F) τ → ∀ Q : VK, (∀ u H' k O', Φ k O' → Rs B H' σ ρ (O' ++ F) ((u, k) :: τ) → Q u H') → r vs H Q
structure AE where
  nx : Sl → Cs → Prop
  rt : Kn → Cs → Prop
  bk : Sl → Cs → Prop
  ct : Sl → Cs → Prop
structure Meets (B : Bs) (E : AE) (D : Ends) (τ : List (V × Kn)) (F : Cs) : Prop where
  nx : ∀ σ H ρ O, E.nx ρ O → Rs B H σ ρ (O ++ F) τ → D.nx σ H
  rt : ∀ v H σ ρ k O, E.rt k O → Rs B H σ ρ (O ++ F) ((v, k) :: τ) → D.rt v H
  bk : ∀ σ H ρ O, E.bk ρ O → Rs B H σ ρ (O ++ F) τ → D.bk σ H
  ct : ∀ σ H ρ O, E.ct ρ O → Rs B H σ ρ (O ++ F) τ → D.ct σ H
def Sx (B : Bs) (t : TS) (ρ : Sl) (O : Cs) (E : AE) : Prop := ∀ σ H τ F D, Rs B H σ ρ (O ++ F) τ → Meets B E D τ F → t D σ H
/-- a target is stored -/
def Tg (B : Bs) (g : TG) (k : Kn) (ρ : Sl) (O : Cs) (Ψ : Sl → Cs → Prop) : Prop :=
  ∀ σ H τ F v, Rs B H σ ρ (O ++ F) ((v, k) :: τ) → ∀ Q : L2.St → Hp → Prop, (∀ σ' H' ρ' O', Ψ ρ' O' → Rs B H' σ' ρ' (O' ++ F) τ → Q σ' H') → g v σ H Q
def Tgs (B : Bs) (g : TGs) (ks : List Kn) (ρ : Sl) (O : Cs) (Ψ : Sl → Cs → Prop) : Prop :=
  ∀ σ H τ F vs, vs.length = ks.length → Rs B H σ ρ (O ++ F) (vs.zip ks ++ τ) → ∀ Q : L2.St → Hp → Prop, (∀ σ' H' ρ' O', Ψ ρ' O' → Rs B H' σ' ρ' (O' ++ F) τ → Q σ' H') → g vs σ H Q
/-- a walk gives these items, while what it needs of the owned objects is there -/
def AWalk (B : Bs) (J : It) (items : List Kn) (need : Cs) (τ0 : List (V × Kn)) : Prop :=
  ∀ H σ ρ O τ, Rs B H σ ρ O (τ0 ++ τ) → (∀ q ∈ need, q ∈ O) → (∀ i, i < items.length → J.go i H) ∧ J.stop items.length H ∧ ∀ i k x H', items[i]? = some k → J.yld i H x H' → Rs B H' σ ρ O ((x, k) :: (τ0 ++ τ))
def EvI (B : Bs) (wi : TI) (ρ : Sl) (O : Cs) (Φ : List Kn → Cs → Cs → Prop) : Prop :=
  ∀ σ H τ F, Rs B H σ ρ (O ++ F) τ → ∀ R : It → Hp → Prop, (∀ J H' items need O' τ0, Φ items need O' → Rs B H' σ ρ (O' ++ F) (τ0 ++ τ) → AWalk B J items need τ0 → R J H') → wi σ H R

/-! ### promises -/
abbrev WT := List Kn → Cs → (Kn → Cs → Prop) → Prop
def spW (n : Nat) (W : WT) : Sp := fun vs H Q _ => vs.length = n ∧ ∃ ks O Φ, vs.length = ks.length ∧ (∀ q ∈ vs.zip ks, q.2.h H q.1) ∧ (∀ q ∈ O, q.2.h H q.1) ∧ (O.map (·.1)).Nodup ∧ W ks O Φ ∧
  ∀ v H' k O', Φ k O' → k.h H' v → Grow (O.map (·.1)) H H' → (∀ q ∈ O', q.2.h H' q.1) → (O'.map (·.1)).Nodup → (∀ q ∈ O', q.1 ∈ O.map (·.1) ∨ H q.1 = none) → Q v H'
def Fg (Φ : Kn → Cs → Prop) : Kn → Cs → Prop := fun k O => ∃ O2, Sub O2 O ∧ Φ k O2
def endsOf (Φ : Kn → Cs → Prop) : AE := { nx := fun _ O => Fg Φ (.dat .none) O, rt := Fg Φ, bk := fun _ _ => False, ct := fun _ _ => False }
/-- what a body's reading is to show -/
def Bx (n m : Nat) (W : WT) (t : TS) : Prop := ∀ (B : Bs) ks O Φ, ks.length = n → W ks O Φ → Sx B t (ks.map some ++ List.replicate (m - n) none) O (endsOf Φ)
theorem slots_start {H : Hp} : ∀ {vs : List V} {ks : List Kn}, vs.length = ks.length → (∀ q ∈ vs.zip ks, q.2.h H q.1) → ∀ (m i : Nat) (k : Kn), (ks.map some ++ List.replicate m none)[i]? = some (some k) → ∃ v, (vs.map some ++ List.replicate m none)[i]? = some (some v) ∧ k.h H v
  | [], [], _, _, m, i, k, e => by
    simp only [List.map_nil, List.nil_append] at e
    rw [List.getElem?_replicate] at e
    split at e <;> cases e
  | v :: vs, k0 :: ks, hl, hq, m, 0, k, e => by
    simp only [List.map_cons, List.cons_append, List.getElem?_cons_zero, Option.some.injEq] at e
    subst e
    exact ⟨v, rfl, hq (v, k0) (List.mem_cons_self ..)⟩
  | v :: vs, k0 :: ks, hl, hq, m, i + 1, k, e => by
    simp only [List.map_cons, List.cons_append, List.getElem?_cons_succ] at e
    obtain ⟨u, h1, h2⟩ := slots_start (vs := vs) (ks := ks) (by simpa using hl) (fun q h => hq q (by rw [List.zip_cons_cons]; exact List.mem_cons_of_mem _ h)) m i k e
    exact ⟨u, by simpa using h1, h2⟩
  | [], _ :: _, hl, _, _, _, _, _ => by simp at hl
  | _ :: _, [], hl, _, _, _, _, _ => by simp at hl
section
variable {P : Program} {w : World} {K : PySem.W.Frag} {mg : Str → Option Value} {base : Heap}
/-- THE RULE for a def -/
theorem fn_sk {x qual : Str} {st : Stmt} {f : Addr} {fd : FuncData} {N ps : List Str} {k : Nat} (n : Nat) {W : WT} (F : Fun K x qual st f fd) (S : FnScope N ps (defScope st)) (hn : ps.length = n)
    (hbody : ∀ (cdv : Value) (A : Around) (outer : List Env) (s : Shared) (H : Hp) (E : XK), Room k (A.deeper (envOfC qual (defScope st) s.heap.objs.size f cdv)) →
      ∃ t, PSs (cxOf CX0 P w K mg base N qual (defScope st) f cdv A outer s H E).nox (defBody st) t ∧ Bx n N.length W t) : FnOk P w K mg base CX0 (k + 1) f fd ps (spW n W) := by
  refine F.ok S (fun vs H Q E h => by rw [hn]; exact h.1) fun cdv A outer s H vs Q E hr h => ?_
  obtain ⟨t, ht, hb⟩ := hbody cdv A outer s H E hr
  refine ⟨t, ht, ?_⟩
  obtain ⟨hl, ks, O, Φ, hk, hv, hc, hnd, hW, q⟩ := h
  have hkl : ks.length = n := by omega
  have R0 : Rs ⟨O.map (·.1), H⟩ H (L2.start N vs) (ks.map some ++ List.replicate (N.length - n) none) O [] := by
    refine ⟨.refl _ _, ?_, ?_, (fun q hq => nomatch hq), hc, hnd, fun q hq => .inl (List.mem_map.mpr ⟨q, hq, rfl⟩)⟩
    · unfold L2.start
      rw [List.length_append, List.length_append, List.length_map, List.length_map, List.length_replicate, List.length_replicate]
      omega
    · intro i k e
      unfold L2.start
      rw [show N.length - vs.length = N.length - n by omega]
      exact slots_start hk hv _ i k e
  refine hb ⟨O.map (·.1), H⟩ ks O Φ hkl hW (L2.start N vs) H [] [] _ (by rw [List.append_nil]; exact R0) ⟨fun σ H' ρ O' h R => ?_, fun v H' σ ρ k O' h R => ?_, fun _ _ _ _ h => h.elim, fun _ _ _ _ h => h.elim⟩
  · obtain ⟨O2, sb, h⟩ := h
    have R := R.less sb
    rw [List.append_nil] at R
    exact q .non H' (.dat .none) O2 h .non R.grow R.cell R.nd R.own
  · obtain ⟨O2, sb, h⟩ := h
    have R := R.less sb
    rw [List.append_nil] at R
    exact q v H' k O2 h R.top R.grow R.cell R.nd R.own
end
end Sk

/-! Sk2: rules for expressions, tests, arguments, statements. -/
namespace Sk
open PySem PySem.Spec PyProof.Rows L2

section
variable {B : Bs} {K : PySem.W.Frag} {ρ : Sl} {O : Cs} {Φ Ψ : Kn → Cs → Prop} {ta tb tc te : TE} {tt tu : TT} {as : TA} {k x y : Kn} {i : Nat}

/-! ### data of what is known -/
/-- the data that stands behind what is known: itself, or an owned list's -/
inductive Da (O : Cs) : Kn → PyData → Prop
  | dat (d : PyData) : Da O (.dat d) d
  | lst {p : Addr} {xs : List PyData} : (p, Cell.lst xs) ∈ O → Da O (.ptr p) (.list xs)
theorem Da.app {F : Cs} {d : PyData} (a : Da O k d) : Da (O ++ F) k d := by
  cases a with
  | dat d => exact .dat d
  | lst h => exact .lst (List.mem_append_left _ h)
theorem Rs.dp {H : Hp} {σ : L2.St} {τ : List (V × Kn)} {v : V} {d : PyData} (R : Rs B H σ ρ O τ) (a : Da O k d) (h : k.h H v) : Dp K H v d := by
  cases a with
  | dat d => exact Dt.dp h
  | lst hm =>
    cases h
    obtain ⟨vs, e, dl⟩ := R.cell _ hm
    exact .lst (SqL.of e) (DtL.dp dl)

/-! ### expressions -/
theorem Ev.imp (h : Ev B te ρ O Φ) (f : ∀ k O', Φ k O' → Ψ k O') : Ev B te ρ O Ψ := fun σ H τ F R Q hQ => h σ H τ F R Q fun v H' k O' p R' => hQ v H' k O' (f k O' p) R'
theorem ev_var (h : ρ[i]? = some (some k)) (q : Φ k O) : Ev B (tVar i) ρ O Φ := fun σ H τ F R Q hQ => by
  obtain ⟨v, e, hk⟩ := R.slot i k h
  exact ⟨v, e, hQ v H k O q (R.push hk)⟩
theorem ev_c {v : V} (h : ∀ H, k.h H v) (q : Φ k O) : Ev B (tC v) ρ O Φ := fun σ H τ F R Q hQ => hQ v H k O q (R.push (h H))
theorem ev_int {n : Int} (q : Φ (.dat (.int n)) O) : Ev B (tC (.int n)) ρ O Φ := ev_c (k := .dat (.int n)) (fun _ => Dt.int n) q
theorem ev_bl {b : Bool} (q : Φ (.dat (.bool b)) O) : Ev B (tC (.bl b)) ρ O Φ := ev_c (k := .dat (.bool b)) (fun _ => Dt.bl b) q
theorem ev_non (q : Φ (.dat .none) O) : Ev B (tC .non) ρ O Φ := ev_c (k := .dat .none) (fun _ => Dt.non) q
theorem ev_str {s : Str} (q : Φ (.dat (.str s)) O) : Ev B (tC (.str s)) ρ O Φ := ev_c (k := .dat (.str s)) (fun _ => Dt.str s) q
theorem ev_ref {p : Addr} (q : Φ (.ptr p) O) : Ev B (tC (.ref p)) ρ O Φ := ev_c (k := .ptr p) (fun _ => rfl) q
theorem ev_ty {n : String} (q : Φ (.cls n) O) : Ev B (tC (.ty n)) ρ O Φ := ev_c (k := .cls n) (fun _ => rfl) q
theorem ev_op {r : R2} (h : Ev B ta ρ O fun x O1 => Ev B tb ρ O1 fun y O2 => Op2 B r x y O2 Φ) : Ev B (tOp r ta tb) ρ O Φ := fun σ H τ F R Q hQ =>
  h σ H τ F R _ fun v H1 x O1 hb R1 => hb σ H1 _ F R1 _ fun w H2 y O2 hr R2 =>
    hr σ ρ H2 τ F v w (R2.tmp (v, x) (by simp)) R2.top (R2.pop.pop) Q fun u H3 k O3 q R3 => hQ u H3 k O3 q R3
theorem ev_un {r : V → Hp → VK → Prop} (h : Ev B ta ρ O fun x O1 => Op1 B r x O1 Φ) : Ev B (tUn r ta) ρ O Φ := fun σ H τ F R Q hQ =>
  h σ H τ F R _ fun v H1 x O1 hr R1 => hr σ ρ H1 τ F v R1.top R1.pop Q fun u H3 k O3 q R3 => hQ u H3 k O3 q R3
theorem ev_cb {r : List V → Hp → VK → Prop} (h : EvA B as ρ O fun ks O1 => OpC B r ks O1 Φ) : Ev B (tCB r as) ρ O Φ := fun σ H τ F R Q hQ =>
  h σ H τ F R _ fun vs H1 ks O1 hr hl R1 => hr σ ρ H1 τ F vs hl (fun q hq => R1.tmp q (List.mem_append_left _ hq)) (R1.sub fun q hq => List.mem_append_right _ hq) Q fun u H3 k O3 q R3 => hQ u H3 k O3 q R3
theorem ev_if (h : EvT B tt ρ O fun b O1 => (b = true → Ev B ta ρ O1 Φ) ∧ (b = false → Ev B tb ρ O1 Φ)) : Ev B (tIf tt ta tb) ρ O Φ := fun σ H τ F R Q hQ =>
  h σ H τ F R _ fun b H1 O1 hb R1 => by
    cases b with
    | true => exact hb.1 rfl σ H1 τ F R1 Q hQ
    | false => exact hb.2 rfl σ H1 τ F R1 Q hQ
theorem ev_and (h : Ev B ta ρ O fun x O1 => ∃ b, x = .dat (.bool b) ∧ (b = true → Ev B tb ρ O1 Φ) ∧ (b = false → Φ (.dat (.bool false)) O1)) : Ev B (tAndV ta tb) ρ O Φ := fun σ H τ F R Q hQ =>
  h σ H τ F R _ fun v H1 x O1 hb R1 => by
    obtain ⟨b, rfl, h1, h2⟩ := hb
    have hv : Dt H1 v (.bool b) := R1.top
    cases hv
    refine ⟨b, rfl, ?_⟩
    cases b with
    | true => exact iteT (h1 rfl σ H1 τ F R1.pop Q hQ)
    | false => exact iteF (hQ _ H1 _ O1 (h2 rfl) (R1.pop.push (.bl false)))
theorem ev_or (h : Ev B ta ρ O fun x O1 => ∃ b, x = .dat (.bool b) ∧ (b = true → Φ (.dat (.bool true)) O1) ∧ (b = false → Ev B tb ρ O1 Φ)) : Ev B (tOrV ta tb) ρ O Φ := fun σ H τ F R Q hQ =>
  h σ H τ F R _ fun v H1 x O1 hb R1 => by
    obtain ⟨b, rfl, h1, h2⟩ := hb
    have hv : Dt H1 v (.bool b) := R1.top
    cases hv
    refine ⟨b, rfl, ?_⟩
    cases b with
    | true => exact iteT (hQ _ H1 _ O1 (h1 rfl) (R1.pop.push (.bl true)))
    | false => exact iteF (h2 rfl σ H1 τ F R1.pop Q hQ)
theorem ev_not (h : Ev B ta ρ O fun x O1 => ∃ b, x = .dat (.bool b) ∧ Φ (.dat (.bool (!b))) O1) : Ev B (tNotV ta) ρ O Φ := fun σ H τ F R Q hQ =>
  h σ H τ F R _ fun v H1 x O1 hb R1 => by
    obtain ⟨b, rfl, h1⟩ := hb
    have hv : Dt H1 v (.bool b) := R1.top
    cases hv
    exact ⟨b, rfl, hQ _ H1 _ O1 h1 (R1.pop.push (.bl (!b)))⟩

/-! ### tests -/
section
variable {Θ : Bool → Cs → Prop}
theorem et_test (h : Ev B te ρ O fun x O1 => ∃ b, x = .dat (.bool b) ∧ Θ b O1) : EvT B (tTest te) ρ O Θ := fun σ H τ F R Q hQ =>
  h σ H τ F R _ fun v H1 x O1 hb R1 => by
    obtain ⟨b, rfl, h1⟩ := hb
    have hv : Dt H1 v (.bool b) := R1.top
    cases hv
    exact ⟨b, rfl, hQ b H1 O1 h1 R1.pop⟩
theorem et_B (h : Ev B te ρ O fun x O1 => ∃ b, x = .dat (.bool b) ∧ Θ b O1) : EvT B (tB te) ρ O Θ := et_test h
theorem et_and (h : EvT B tt ρ O fun b O1 => (b = true → EvT B tu ρ O1 Θ) ∧ (b = false → Θ false O1)) : EvT B (tAnd tt tu) ρ O Θ := fun σ H τ F R Q hQ =>
  h σ H τ F R _ fun b H1 O1 hb R1 => by
    cases b with
    | true => exact iteT (hb.1 rfl σ H1 τ F R1 Q hQ)
    | false => exact iteF (hQ false H1 O1 (hb.2 rfl) R1)
theorem et_or (h : EvT B tt ρ O fun b O1 => (b = true → Θ true O1) ∧ (b = false → EvT B tu ρ O1 Θ)) : EvT B (tOr tt tu) ρ O Θ := fun σ H τ F R Q hQ =>
  h σ H τ F R _ fun b H1 O1 hb R1 => by
    cases b with
    | true => exact iteT (hQ true H1 O1 (hb.1 rfl) R1)
    | false => exact iteF (hb.2 rfl σ H1 τ F R1 Q hQ)
theorem et_not (h : EvT B tt ρ O fun b O1 => Θ (!b) O1) : EvT B (tNot tt) ρ O Θ := fun σ H τ F R Q hQ =>
  h σ H τ F R _ fun b H1 O1 hb R1 => hQ (!b) H1 O1 hb R1
theorem et_yes (q : Θ true O) : EvT B tYes ρ O Θ := fun σ H τ F R Q hQ => hQ true H O q R
theorem et_chain {r r' : R2} (h : Ev B ta ρ O fun x O1 => Ev B tb ρ O1 fun y O2 => Op2 B r x y O2 fun z O3 => ∃ b, z = .dat (.bool b) ∧
    (b = true → Ev B tc ρ O3 fun w O4 => Op2 B r' y w O4 fun z' O5 => ∃ b', z' = .dat (.bool b') ∧ Θ b' O5) ∧ (b = false → Θ false O3)) : EvT B (tTest (tChain r r' ta tb tc)) ρ O Θ := fun σ H τ F R Q hQ =>
  h σ H τ F R _ fun v H1 x O1 hb R1 => hb σ H1 _ F R1 _ fun w H2 y O2 hr R2 =>
    hr σ ρ H2 ((w, y) :: τ) F v w (R2.tmp (v, x) (by simp)) R2.top (R2.sub (by intro q hq; rcases List.mem_cons.mp hq with e | e <;> simp [e])) _ fun u H3 k O3 q R3 => by
      obtain ⟨b, rfl, h1, h2⟩ := q
      have hv : Dt H3 u (.bool b) := R3.top
      cases hv
      refine ⟨b, rfl, ?_⟩
      cases b with
      | true =>
        refine iteT (h1 rfl σ H3 _ F R3 _ fun z H4 w' O4 q4 R4 => ?_)
        exact q4 σ ρ H4 τ F w z (R4.tmp (w, y) (by simp)) R4.top (R4.sub (by intro q hq; simp [hq])) _ fun u' H5 k' O5 q5 R5 => by
          obtain ⟨b', rfl, h5⟩ := q5
          have hv' : Dt H5 u' (.bool b') := R5.top
          cases hv'
          exact ⟨b', rfl, hQ b' H5 O5 h5 R5.pop⟩
      | false => exact iteF ⟨false, rfl, hQ false H3 O3 (h2 rfl) (R3.sub (by intro q hq; simp [hq]))⟩
end

/-! ### arguments -/
theorem ea_nil {Λ : List Kn → Cs → Prop} (q : Λ [] O) : EvA B tNil ρ O Λ := fun σ H τ F R Q hQ => hQ [] H [] O q rfl (by simpa using R)
theorem ea_cons {Λ : List Kn → Cs → Prop} (h : Ev B te ρ O fun x O1 => EvA B as ρ O1 fun ks O2 => Λ (x :: ks) O2) : EvA B (tCons te as) ρ O Λ := fun σ H τ F R Q hQ =>
  h σ H τ F R _ fun v H1 x O1 ha R1 => ha σ H1 _ F R1 _ fun vs H2 ks O2 q hl R2 => hQ (v :: vs) H2 (x :: ks) O2 q (by simp [hl]) (R2.sub (by
    intro q hq
    rw [List.zip_cons_cons] at hq
    rcases List.mem_append.mp hq with h | h
    · rcases List.mem_cons.mp h with e | e
      · subst e; simp
      · exact List.mem_append_left _ e
    · simp [h]))

/-! ### displays -/
/-- the data of a row of known things, all of them data -/
def alld : List Kn → List PyData → Prop
  | [], [] => True
  | .dat d :: ks, e :: ds => d = e ∧ alld ks ds
  | _, _ => False
theorem alld.dtl {H : Hp} : ∀ {vs : List V} {ks : List Kn} {ds : List PyData}, vs.length = ks.length → (∀ q ∈ vs.zip ks, q.2.h H q.1) → alld ks ds → DtL H vs ds
  | [], [], [], _, _, _ => .nil
  | v :: vs, .dat d :: ks, e :: ds, hl, hq, a => by
    obtain ⟨rfl, a⟩ := a
    exact .cons (hq (v, .dat d) (by simp)) (alld.dtl (by simpa using hl) (fun q h => hq q (by rw [List.zip_cons_cons]; exact List.mem_cons_of_mem _ h)) a)
  | [], _ :: _, _, hl, _, _ => by simp at hl
  | _ :: _, [], _, hl, _, _ => by simp at hl
  | [], [], _ :: _, _, _, a => a.elim
  | _ :: _, .ptr _ :: _, _, _, _, a => by cases a
  | _ :: _, .cls _ :: _, _, _, _, a => by cases a
  | _ :: _, .pair _ _ :: _, _, _, _, a => by cases a
  | _ :: _, .dat _ :: _, [], _, _, a => by cases a
theorem ev_tup (h : EvA B as ρ O fun ks O1 => ∃ ds, alld ks ds ∧ ks.length ≤ 100000 ∧ Φ (.dat (.tuple ds)) O1) : Ev B (tTup as) ρ O Φ := fun σ H τ F R Q hQ =>
  h σ H τ F R _ fun vs H1 ks O1 ⟨ds, a, hz, q⟩ hl R1 => ⟨by rw [hl]; exact Nat.le_trans hz (by decide), fun p hp => by
    have dl := a.dtl hl fun q hq => R1.tmp q (List.mem_append_left _ hq)
    have R2 : Rs B H1 σ ρ (O1 ++ F) τ := R1.sub fun q hq => List.mem_append_right _ hq
    exact hQ _ _ _ _ q ((R2.new _ hp).push (.tup upd_same (dl.grow (S := []) (.new hp) (fun _ z => nomatch z))))⟩
/-- a new list of data -/
theorem ev_lst (h : EvA B as ρ O fun ks O1 => ∃ ds, alld ks ds ∧ ks.length ≤ 100000 ∧ ∀ p, Φ (.ptr p) ((p, .lst ds) :: O1)) : Ev B (tLst as) ρ O Φ := fun σ H τ F R Q hQ =>
  h σ H τ F R _ fun vs H1 ks O1 ⟨ds, a, hz, q⟩ hl R1 => ⟨by rw [hl]; exact Nat.le_trans hz (by decide), fun p hp => by
    have dl := a.dtl hl fun q hq => R1.tmp q (List.mem_append_left _ hq)
    have R2 : Rs B H1 σ ρ (O1 ++ F) τ := R1.sub fun q hq => List.mem_append_right _ hq
    refine hQ _ _ _ _ (q p) ((R2.lay (c := .lst ds) (.lst vs) hp ⟨vs, upd_same, dl.grow (S := []) (.new hp) (fun _ z => nomatch z)⟩).push rfl)⟩
/-- a new dict with tuple keys -/
theorem ev_dnew (q : ∀ p, Φ (.ptr p) ((p, .dic []) :: O)) : Ev B tDNewT ρ O Φ := fun σ H τ F R Q hQ p hp =>
  hQ _ _ _ _ (q p) ((R.lay (c := .dic []) (.dT []) hp ⟨[], upd_same, .nil⟩).push rfl)

/-! ### operations -/
section
variable {a b : Int}
theorem o2_I0 {g : Int → Int → V} {d : PyData} (hg : ∀ H, Dt H (g a b) d) (q : Φ (.dat d) O) : Op2 B (rI0 g) (.dat (.int a)) (.dat (.int b)) O Φ := fun σ ρ H τ F v w hx hy R Q hQ => by
  cases hx; cases hy
  exact ⟨a, b, rfl, rfl, hQ _ _ _ _ q (R.push (hg H))⟩
theorem o2_I {C : Int → Int → Prop} {g : Int → Int → V} {d : PyData} (hc : C a b) (hg : ∀ H, Dt H (g a b) d) (q : Φ (.dat d) O) : Op2 B (rI C g) (.dat (.int a)) (.dat (.int b)) O Φ := fun σ ρ H τ F v w hx hy R Q hQ => by
  cases hx; cases hy
  exact ⟨a, b, rfl, rfl, hc, hQ _ _ _ _ q (R.push (hg H))⟩
theorem o_add (q : Φ (.dat (.int (a + b))) O) : Op2 B (rI0 fun i j => .int (i + j)) (.dat (.int a)) (.dat (.int b)) O Φ := o2_I0 (fun _ => .int _) q
theorem o_sub (q : Φ (.dat (.int (a - b))) O) : Op2 B (rI0 fun i j => .int (i - j)) (.dat (.int a)) (.dat (.int b)) O Φ := o2_I0 (fun _ => .int _) q
theorem o_mul (hc : CMul a b) (q : Φ (.dat (.int (a * b))) O) : Op2 B (rI CMul fun i j => .int (i * j)) (.dat (.int a)) (.dat (.int b)) O Φ := o2_I hc (fun _ => .int _) q
theorem o_fdiv (hc : CDiv a b) (q : Φ (.dat (.int (a / b))) O) : Op2 B (rI CDiv fun i j => .int (i / j)) (.dat (.int a)) (.dat (.int b)) O Φ := o2_I hc (fun _ => .int _) q
theorem o_fdivW (hc : CDivW a b) (q : Φ (.dat (.int (a / b))) O) : Op2 B (rI CDivW fun i j => .int (i / j)) (.dat (.int a)) (.dat (.int b)) O Φ := o2_I hc (fun _ => .int _) q
theorem o_mod (hc : 0 < b) (q : Φ (.dat (.int (a % b))) O) : Op2 B (rI (fun _ j => 0 < j) fun i j => .int (i % j)) (.dat (.int a)) (.dat (.int b)) O Φ := o2_I hc (fun _ => .int _) q
theorem o_pow (hc : CPow a b) (q : Φ (.dat (.int (a ^ b.toNat))) O) : Op2 B (rI CPow fun i j => .int (i ^ j.toNat)) (.dat (.int a)) (.dat (.int b)) O Φ := o2_I hc (fun _ => .int _) q
theorem o_lt (q : Φ (.dat (.bool (decide (a < b)))) O) : Op2 B (rI0 fun i j => .bl (decide (i < j))) (.dat (.int a)) (.dat (.int b)) O Φ := o2_I0 (fun _ => .bl _) q
theorem o_le (q : Φ (.dat (.bool (decide (a ≤ b)))) O) : Op2 B (rI0 fun i j => .bl (decide (i ≤ j))) (.dat (.int a)) (.dat (.int b)) O Φ := o2_I0 (fun _ => .bl _) q
theorem o_gt (q : Φ (.dat (.bool (decide (b < a)))) O) : Op2 B (rI0 fun i j => .bl (decide (j < i))) (.dat (.int a)) (.dat (.int b)) O Φ := o2_I0 (fun _ => .bl _) q
theorem o_ge (q : Φ (.dat (.bool (decide (b ≤ a)))) O) : Op2 B (rI0 fun i j => .bl (decide (j ≤ i))) (.dat (.int a)) (.dat (.int b)) O Φ := o2_I0 (fun _ => .bl _) q
theorem o_neg (q : Φ (.dat (.int (-a))) O) : Op1 B (rU fun i => .int (-i)) (.dat (.int a)) O Φ := fun σ ρ H τ F v hx R Q hQ => by
  cases hx
  exact ⟨a, rfl, hQ _ _ _ _ q (R.push (.int _))⟩
end
/-- == of data -/
theorem o_eqD {d e : PyData} (hx : Da O x d) (hy : Da O y e) (sd : SeqAt.shaped d = true) (se : SeqAt.shaped e = true) (q : Φ (.dat (.bool (PyData.eqv d e))) O) : Op2 B (rEqD K) x y O Φ := fun σ ρ H τ F v w hv hw R Q hQ =>
  ⟨d, e, R.dp hx.app hv, R.dp hy.app hw, sd, se, hQ _ _ _ _ q (R.push (.bl _))⟩
theorem o_neD {d e : PyData} (hx : Da O x d) (hy : Da O y e) (sd : SeqAt.shaped d = true) (se : SeqAt.shaped e = true) (q : Φ (.dat (.bool (!PyData.eqv d e))) O) : Op2 B (rNeD K) x y O Φ := fun σ ρ H τ F v w hv hw R Q hQ =>
  ⟨d, e, R.dp hx.app hv, R.dp hy.app hw, sd, se, hQ _ _ _ _ q (R.push (.bl _))⟩
theorem o_inD {d : PyData} {ds : List PyData} (hx : Da O x d) (hy : Da O y (.list ds)) (sd : SeqAt.shaped d = true) (se : SeqAt.shaped (.list ds) = true) (q : Φ (.dat (.bool (ds.any fun z => PyData.eqv z d))) O) : Op2 B (rInD K) x y O Φ := fun σ ρ H τ F v w hv hw R Q hQ =>
  ⟨d, ds, R.dp hx.app hv, R.dp hy.app hw, sd, se, hQ _ _ _ _ q (R.push (.bl _))⟩
theorem o_notInD {d : PyData} {ds : List PyData} (hx : Da O x d) (hy : Da O y (.list ds)) (sd : SeqAt.shaped d = true) (se : SeqAt.shaped (.list ds) = true) (q : Φ (.dat (.bool (!ds.any fun z => PyData.eqv z d))) O) : Op2 B (rNotInD K) x y O Φ := fun σ ρ H τ F v w hv hw R Q hQ =>
  ⟨d, ds, R.dp hx.app hv, R.dp hy.app hw, sd, se, hQ _ _ _ _ q (R.push (.bl _))⟩
/-- flat items -/
def flatD : PyData → Bool
  | .none | .bool _ | .int _ | .str _ => true
  | _ => false
theorem Dt.flat {H : Hp} {v : V} {d : PyData} (h : Dt H v d) (f : flatD d = true) : flatV v = true := by
  cases h <;> first | rfl | cases f
theorem Dt.eqv {H : Hp} {v w : V} {d e : PyData} (h : Dt H v d) (h' : Dt H w e) (f : flatD d = true) (f' : flatD e = true) : eqV v w = PyData.eqv d e := by
  cases h <;> cases h' <;> first | (simp only [eqV, PyData.eqv]; done) | cases f | cases f'
theorem DtL.flat {H : Hp} : ∀ {vs : List V} {ds : List PyData}, DtL H vs ds → ds.all flatD = true → vs.all flatV = true
  | _, _, .nil, _ => rfl
  | _, _, .cons a b, f => by
    rw [List.all_cons, Bool.and_eq_true] at f ⊢
    exact ⟨a.flat f.1, DtL.flat b f.2⟩
theorem DtL.inV {H : Hp} {w : V} {e : PyData} (h' : Dt H w e) (f' : flatD e = true) : ∀ {vs : List V} {ds : List PyData}, DtL H vs ds → ds.all flatD = true → inV w vs = ds.any fun z => PyData.eqv z e
  | _, _, .nil, _ => rfl
  | _, _, .cons a b, f => by
    rw [List.all_cons, Bool.and_eq_true] at f
    have ih := DtL.inV h' f' b f.2
    unfold L2.inV at ih ⊢
    rw [List.any_cons, List.any_cons, ih, a.eqv h' f.1 f']
/-- x in a tuple or list of flat things -/
inductive Sq (O : Cs) : Kn → List PyData → Prop
  | tup (ds : List PyData) : Sq O (.dat (.tuple ds)) ds
  | lst {p : Addr} {ds : List PyData} : (p, Cell.lst ds) ∈ O → Sq O (.ptr p) ds
theorem Sq.app {F : Cs} {ds : List PyData} (a : Sq O k ds) : Sq (O ++ F) k ds := by
  cases a with
  | tup d => exact .tup _
  | lst h => exact .lst (List.mem_append_left _ h)
theorem Rs.sq {H : Hp} {σ : L2.St} {τ : List (V × Kn)} {v : V} {ds : List PyData} (R : Rs B H σ ρ O τ) (a : Sq O k ds) (h : k.h H v) : ∃ p vs, v = .ref p ∧ (H p = some (.lst vs) ∨ H p = some (.tup vs)) ∧ DtL H vs ds := by
  cases a with
  | tup ds =>
    cases h with
    | tup e dl => exact ⟨_, _, rfl, .inr e, dl⟩
  | lst hm =>
    cases h
    obtain ⟨vs, e, dl⟩ := R.cell _ hm
    exact ⟨_, vs, rfl, .inl e, dl⟩
theorem o_in {d : PyData} {ds : List PyData} (hy : Sq O y ds) (f : flatD d = true) (fs : ds.all flatD = true) (q : Φ (.dat (.bool (ds.any fun z => PyData.eqv z d))) O) : Op2 B (rIn K false) (.dat d) y O Φ := fun σ ρ H τ F v w hv hw R Q hQ => by
  obtain ⟨p, vs, rfl, e, dl⟩ := R.sq hy.app hw
  refine ⟨p, vs, rfl, e.elim (fun e => .inl (SqL.of e)) (fun e => .inr (SqT.of e)), Dt.flat hv f, dl.flat fs, ?_⟩
  rw [DtL.inV hv f dl fs]
  exact hQ _ _ _ _ q (R.push (.bl _))
theorem o_notIn {d : PyData} {ds : List PyData} (hy : Sq O y ds) (f : flatD d = true) (fs : ds.all flatD = true) (q : Φ (.dat (.bool (!ds.any fun z => PyData.eqv z d))) O) : Op2 B (rIn K true) (.dat d) y O Φ := fun σ ρ H τ F v w hv hw R Q hQ => by
  obtain ⟨p, vs, rfl, e, dl⟩ := R.sq hy.app hw
  refine ⟨p, vs, rfl, e.elim (fun e => .inl (SqL.of e)) (fun e => .inr (SqT.of e)), Dt.flat hv f, dl.flat fs, ?_⟩
  rw [DtL.inV hv f dl fs]
  exact hQ _ _ _ _ q (R.push (.bl _))
/-- an item -/
theorem o_ix {n : Int} {ds : List PyData} {d : PyData} (hx : Sq O x ds) (h : atI ds n = some d) (q : Φ (.dat d) O) : Op2 B (rIx K) x (.dat (.int n)) O Φ := fun σ ρ H τ F v w hv hw R Q hQ => by
  cases hw
  obtain ⟨p, vs, rfl, e, dl⟩ := R.sq hx.app hv
  have hl := dl.length
  unfold atI at h
  obtain ⟨j, hj, hd⟩ := Option.bind_eq_some_iff.mp h
  obtain ⟨u, hu, du⟩ := dl.get hd
  have ha : atI vs n = some u := by
    unfold atI
    rw [hl, hj]
    exact hu
  rcases e with e | e
  · exact .inl ⟨p, vs, n, u, rfl, rfl, SqL.of e, ha, hQ _ _ _ _ q (R.push du)⟩
  · exact .inr (.inl ⟨p, vs, n, u, rfl, rfl, SqT.of e, ha, hQ _ _ _ _ q (R.push du)⟩)
theorem o_ixJar {p : Addr} {n : Int} (hx : (p, Cell.jar) ∈ O) (h : 0 ≤ n ∧ n < 3) (q : ∀ m : Int, Φ (.dat (.int m)) O) : Op2 B (rIx K) (.ptr p) (.dat (.int n)) O Φ := fun σ ρ H τ F v w hv hw R Q hQ => by
  cases hw
  cases hv
  obtain ⟨a, b, c, e⟩ := R.cell _ (List.mem_append_left _ hx)
  obtain ⟨m, hm⟩ : ∃ m : Int, atI [V.int a, V.int b, V.int c] n = some (.int m) := by
    have : n = 0 ∨ n = 1 ∨ n = 2 := by omega
    rcases this with rfl | rfl | rfl
    · exact ⟨a, rfl⟩
    · exact ⟨b, rfl⟩
    · exact ⟨c, rfl⟩
  exact .inl ⟨p, _, n, _, rfl, rfl, SqL.of e, hm, hQ _ _ _ _ (q m) (R.push (.int m))⟩
theorem o_isN {d : PyData} (q : Φ (.dat (.bool (match d with | .none => true | _ => false))) O) : Op2 B (fun x y H Q => y = .non ∧ Q (.bl (decide (x = .non))) H) (.dat d) (.dat .none) O Φ := fun σ ρ H τ F v w hv hw R Q hQ => by
  cases hw
  refine ⟨rfl, ?_⟩
  cases hv <;> exact hQ _ _ _ _ q (R.push (.bl _))
end
end Sk

/-! Sk3: statements, loops, comprehensions, calls. -/
namespace Sk
open PySem PySem.Spec PyProof.Rows L2

/-! ### an owned object in its place -/
theorem perm_at {α : Type} {q : α} : ∀ {O : List α} {i : Nat}, O[i]? = some q → O.Perm (q :: O.eraseIdx i)
  | [], _, h => by simp at h
  | a :: r, 0, h => by simp at h; subst h; exact .refl _
  | a :: r, i + 1, h => by
    have ih := perm_at (O := r) (i := i) (by simpa using h)
    exact (List.Perm.cons a ih).trans (.swap ..)
theorem perm_set {α : Type} {q q' : α} : ∀ {O : List α} {i : Nat}, O[i]? = some q → (O.set i q').Perm (q' :: O.eraseIdx i)
  | [], _, h => by simp at h
  | a :: r, 0, h => .refl _
  | a :: r, i + 1, h => by
    have ih := perm_set (q' := q') (O := r) (i := i) (by simpa using h)
    exact (List.Perm.cons a ih).trans (.swap ..)
section
variable {B : Bs} {K : PySem.W.Frag} {ρ : Sl} {O F : Cs} {Φ Ψ : Kn → Cs → Prop} {ta tb tc te : TE} {tt tu : TT} {as : TA} {k x y : Kn} {i : Nat} {H : Hp} {σ : L2.St} {τ : List (V × Kn)} {p : Addr} {c c' : Cell}
theorem Rs.setC (R : Rs B H σ ρ (O ++ F) τ) (h : O[i]? = some (p, c)) {o : HO} (hc : c'.h (upd H p o) p) : Rs B (upd H p o) σ ρ (O.set i (p, c') ++ F) τ := by
  have p1 : (O ++ F).Perm ((p, c) :: (O.eraseIdx i ++ F)) := (perm_at h).append_right F
  have p2 : (O.set i (p, c') ++ F).Perm ((p, c') :: (O.eraseIdx i ++ F)) := (perm_set h).append_right F
  exact ((R.perm p1).put hc).perm p2.symm
theorem Rs.cellAt (R : Rs B H σ ρ (O ++ F) τ) (h : O[i]? = some (p, c)) : c.h H p := R.cell (p, c) (List.mem_append_left _ (List.mem_of_getElem? h))

/-! ### statements -/
variable {t u : TS} {E : AE}
theorem sx_seq (h : Sx B t ρ O { E with nx := fun ρ' O' => Sx B u ρ' O' E }) : Sx B (tSeq t u) ρ O E := fun σ H τ F D R M =>
  h σ H τ F _ R ⟨fun σ' H' ρ' O' hu R' => hu σ' H' τ F D R' M, M.rt, M.bk, M.ct⟩
theorem sx_next (h : E.nx ρ O) : Sx B tNext ρ O E := fun σ H τ F D R M => M.nx σ H ρ O h R
theorem sx_asg {g : TG} (h : Ev B te ρ O fun k O1 => Tg B g k ρ O1 E.nx) : Sx B (tAsg te g) ρ O E := fun σ H τ F D R M =>
  h σ H τ F R _ fun v H1 k O1 hg R1 => hg σ H1 τ F v R1 _ fun σ' H' ρ' O' hn R' => M.nx σ' H' ρ' O' hn R'
theorem tg_name {Ψ : Sl → Cs → Prop} (h : Ψ (ρ.set i (some k)) O) : Tg B (gName i) k ρ O Ψ := fun σ H τ F v R Q hQ => hQ _ _ _ _ h (R.setS i)
theorem tgs_nil {Ψ : Sl → Cs → Prop} (h : Ψ ρ O) : Tgs B gNil [] ρ O Ψ := fun σ H τ F vs hl R Q hQ => by
  cases vs with
  | nil => exact ⟨rfl, hQ _ _ _ _ h (by simpa using R)⟩
  | cons _ _ => simp at hl
theorem tgs_cons {Ψ : Sl → Cs → Prop} {g : TG} {gs : TGs} {ks : List Kn} (h : Tg B g k ρ O fun ρ1 O1 => Tgs B gs ks ρ1 O1 Ψ) : Tgs B (gCons g gs) (k :: ks) ρ O Ψ := fun σ H τ F vs hl R Q hQ => by
  cases vs with
  | nil => simp at hl
  | cons v r =>
    refine ⟨v, r, rfl, ?_⟩
    rw [List.zip_cons_cons] at R
    exact h σ H _ F v R _ fun σ' H' ρ' O' hg R' => hg σ' H' τ F r (by simpa using hl) R' Q hQ
theorem zip_map_dat {H : Hp} : ∀ {vs : List V} {ds : List PyData}, DtL H vs ds → ∀ q ∈ vs.zip (ds.map Kn.dat), q.2.h H q.1
  | _, _, .nil, _, h => by simp at h
  | _, _, .cons a b, q, h => by
    rw [List.map_cons, List.zip_cons_cons] at h
    rcases List.mem_cons.mp h with e | e
    · subst e; exact a
    · exact zip_map_dat b q e
theorem Rs.pushAll {l : List (V × Kn)} (R : Rs B H σ ρ O τ) (h : ∀ q ∈ l, q.2.h H q.1) : Rs B H σ ρ O (l ++ τ) :=
  { R with tmp := fun q hq => (List.mem_append.mp hq).elim (h q) (R.tmp q) }
theorem tg_tup {Ψ : Sl → Cs → Prop} {n : Nat} {gs : TGs} {ds : List PyData} (hn : ds.length = n) (h : Tgs B gs (ds.map Kn.dat) ρ O Ψ) : Tg B (gTup K n gs) (.dat (.tuple ds)) ρ O Ψ := fun σ H τ F v R Q hQ => by
  have hv : Dt H v (.tuple ds) := R.top
  cases hv with
  | tup e dl => exact ⟨_, _, rfl, SqT.of e, by rw [dl.length]; exact hn, h σ H τ F _ (by rw [dl.length, List.length_map]) (R.pop.pushAll (zip_map_dat dl)) Q hQ⟩
theorem tg_pair {Ψ : Sl → Cs → Prop} {gs : TGs} (h : Tgs B gs [x, y] ρ O Ψ) : Tg B (gTup K 2 gs) (.pair x y) ρ O Ψ := fun σ H τ F v R Q hQ => by
  obtain ⟨a, u, w, rfl, e, h1, h2⟩ := (show Kn.h H (.pair x y) v from R.top)
  exact ⟨a, [u, w], rfl, SqT.of e, rfl, h σ H τ F [u, w] rfl (R.pop.pushAll (l := [(u, x), (w, y)]) (by intro q hq; simp at hq; rcases hq with rfl | rfl <;> assumption)) Q hQ⟩
/-- a, b, .. = x, y, .. -/
theorem sx_par {n : Nat} {gs : TGs} (h : EvA B as ρ O fun ks O1 => ks.length = n ∧ ks.length ≤ 100000 ∧ Tgs B gs ks ρ O1 E.nx) : Sx B (tAsg (tTup as) (gTup K n gs)) ρ O E := fun σ H τ F D R M =>
  h σ H τ F R _ fun vs H1 ks O1 ⟨hn, hz, hg⟩ hl R1 => ⟨by rw [hl]; exact Nat.le_trans hz (by decide), fun p hp =>
    ⟨p, vs, rfl, SqT.of upd_same, by rw [hl]; exact hn, hg σ _ τ F vs hl (R1.new _ hp) _ fun σ' H' ρ' O' hn R' => M.nx σ' H' ρ' O' hn R'⟩⟩
theorem sx_par2 {j : Nat} (hij : i ≠ j) (h : EvA B as ρ O fun ks O1 => ∃ x y, ks = [x, y] ∧ E.nx ((ρ.set i (some x)).set j (some y)) O1) : Sx B (tPar i j as) ρ O E := fun σ H τ F D R M =>
  h σ H τ F R _ fun vs H1 ks O1 ⟨x, y, e, hn⟩ hl R1 => by
    subst e
    match vs, hl with
    | [v, w], _ =>
      refine ⟨v, w, rfl, M.nx _ _ _ _ hn ?_⟩
      have R2 : Rs B H1 σ ρ (O1 ++ F) ((v, x) :: (w, y) :: τ) := R1
      exact (R2.setS i).setS j
theorem sx_drop (h : Ev B te ρ O fun _ O1 => E.nx ρ O1) : Sx B (tDrop te) ρ O E := fun σ H τ F D R M =>
  h σ H τ F R _ fun v H1 k O1 hn R1 => M.nx σ H1 ρ O1 hn R1.pop
theorem sx_ret (h : Ev B te ρ O E.rt) : Sx B (tRet te) ρ O E := fun σ H τ F D R M =>
  h σ H τ F R _ fun v H1 k O1 hn R1 => M.rt v H1 σ ρ k O1 hn R1
theorem sx_if (h : EvT B tt ρ O fun b O1 => (b = true → Sx B t ρ O1 E) ∧ (b = false → Sx B u ρ O1 E)) : Sx B (tIfS tt t u) ρ O E := fun σ H τ F D R M =>
  h σ H τ F R _ fun b H1 O1 hb R1 => by
    cases b with
    | true => exact iteT (hb.1 rfl σ H1 τ F D R1 M)
    | false => exact iteF (hb.2 rfl σ H1 τ F D R1 M)
theorem sx_break (h : E.bk ρ O) : Sx B tBreak ρ O E := fun σ H τ F D R M => M.bk σ H ρ O h R
theorem Sx.imp {E' : AE} (h : Sx B t ρ O E) (h1 : ∀ ρ O, E.nx ρ O → E'.nx ρ O) (h2 : ∀ k O, E.rt k O → E'.rt k O) (h3 : ∀ ρ O, E.bk ρ O → E'.bk ρ O) (h4 : ∀ ρ O, E.ct ρ O → E'.ct ρ O) : Sx B t ρ O E' := fun σ H τ F D R M =>
  h σ H τ F D R ⟨fun σ H ρ O q => M.nx σ H ρ O (h1 ρ O q), fun v H σ ρ k O q => M.rt v H σ ρ k O (h2 k O q), fun σ H ρ O q => M.bk σ H ρ O (h3 ρ O q), fun σ H ρ O q => M.ct σ H ρ O (h4 ρ O q)⟩

/-! ### for -/
theorem sx_for {wi : TI} {g : TG} (h : EvI B wi ρ O fun items need O1 => ∃ I : Nat → Sl → Cs → Prop, I 0 ρ O1 ∧ (∀ i ρ' O', i ≤ items.length → I i ρ' O' → ∀ q ∈ need, q ∈ O') ∧
    (∀ i k ρ' O', items[i]? = some k → I i ρ' O' → Tg B g k ρ' O' fun ρ2 O2 => Sx B t ρ2 O2 ⟨fun ρ3 O3 => ∃ O4, Sub O4 O3 ∧ I (i + 1) ρ3 O4, E.rt, E.nx, fun ρ3 O3 => ∃ O4, Sub O4 O3 ∧ I (i + 1) ρ3 O4⟩) ∧ ∀ ρ' O', I items.length ρ' O' → E.nx ρ' O') : Sx B (tFor wi g t) ρ O E := fun σ H τ F D R M =>
  h σ H τ F R _ fun J H1 items need O1 τ0 ⟨I, i0, iG, step, done⟩ R1 Wk => by
    refine ⟨fun i m σ' H' => m = items.length - i ∧ i ≤ items.length ∧ ∃ ρ' O', I i ρ' O' ∧ Rs B H' σ' ρ' (O' ++ F) (τ0 ++ τ), ⟨_, rfl, Nat.zero_le _, ρ, O1, i0, R1⟩, ?_⟩
    rintro i m σ' H' ⟨rfl, hi, ρ', O', hI, R'⟩
    obtain ⟨go, stop, yld⟩ := Wk H' σ' ρ' (O' ++ F) τ R' (fun q hq => List.mem_append_left _ (iG i ρ' O' hi hI q hq))
    by_cases hlt : i < items.length
    · refine .inr ⟨go i hlt, fun σ2 H2 => ∃ ρ2 O2, I (i + 1) ρ2 O2 ∧ Rs B H2 σ2 ρ2 (O2 ++ F) (τ0 ++ τ), fun σ2 H2 ⟨ρ2, O2, h2, R2⟩ => ⟨items.length - (i + 1), by omega, rfl, hlt, ρ2, O2, h2, R2⟩, fun x H2 y => ?_⟩
      have hk : items[i]? = some items[i] := List.getElem?_eq_getElem hlt
      refine step i _ ρ' O' hk hI σ' H2 (τ0 ++ τ) F x (yld i _ x H2 hk y) _ fun σ3 H3 ρ3 O3 h3 R3 => ?_
      refine h3 σ3 H3 (τ0 ++ τ) F _ R3 ⟨fun σ4 H4 ρ4 O4 ⟨O5, sb, h4⟩ R4 => ⟨ρ4, O5, h4, R4.less sb⟩, fun v H4 σ4 ρ4 k4 O4 h4 R4 => M.rt v H4 σ4 ρ4 k4 O4 h4 (R4.sub fun q hq => ?_), fun σ4 H4 ρ4 O4 h4 R4 => M.nx σ4 H4 ρ4 O4 h4 (R4.sub fun q hq => List.mem_append_right _ hq), fun σ4 H4 ρ4 O4 ⟨O5, sb, h4⟩ R4 => ⟨ρ4, O5, h4, R4.less sb⟩⟩
      rcases List.mem_cons.mp hq with e | e
      · rw [e]; exact List.mem_cons_self ..
      · exact List.mem_cons_of_mem _ (List.mem_append_right _ e)
    · have e : i = items.length := by omega
      subst e
      exact .inl ⟨stop, M.nx σ' H' ρ' O' (done ρ' O' hI) (R'.sub fun q hq => List.mem_append_right _ hq)⟩
/-! ### the slots over a comprehension's block -/
def saved (σ : L2.St) (ρ : Sl) : List (V × Kn) := (List.range ρ.length).filterMap fun i => match σ[i]?, ρ[i]? with
  | some (some v), some (some k) => some (v, k)
  | _, _ => none
theorem Rs.save (R : Rs B H σ ρ O τ) : Rs B H σ ρ O (saved σ ρ ++ τ) := R.pushAll fun q hq => by
  unfold saved at hq
  obtain ⟨i, _, e⟩ := List.mem_filterMap.mp hq
  cases hk : ρ[i]? with
  | none => rw [hk] at e; cases hs : σ[i]? with
    | none => rw [hs] at e; cases e
    | some o => rw [hs] at e; cases o <;> cases e
  | some ok =>
    cases ok with
    | none => rw [hk] at e; cases hs : σ[i]? with
      | none => rw [hs] at e; cases e
      | some o => rw [hs] at e; cases o <;> cases e
    | some k =>
      obtain ⟨v, h1, h2⟩ := R.slot i k hk
      rw [h1, hk] at e
      cases e
      exact h2
theorem Rs.load {H' : Hp} {σ' : L2.St} {ρ' : Sl} {O' : Cs} {τ' : List (V × Kn)} (R : Rs B H σ ρ O τ) (R' : Rs B H' σ' ρ' O' τ') (h : ∀ q ∈ saved σ ρ, q ∈ τ') : Rs B H' σ ρ O' τ' :=
  { R' with
    len := R.len
    slot := fun i k e => by
      obtain ⟨v, h1, h2⟩ := R.slot i k e
      refine ⟨v, h1, R'.tmp (v, k) (h _ ?_)⟩
      unfold saved
      refine List.mem_filterMap.mpr ⟨i, List.mem_range.mpr ?_, by rw [h1, e]⟩
      exact Classical.byContradiction fun n => by
        rw [List.getElem?_eq_none (by omega)] at e; cases e }
theorem wipe_get (σ : L2.St) : ∀ (vs : List Nat) (i : Nat), (wipe σ vs)[i]? = if i ∈ vs ∧ i < σ.length then some none else σ[i]?
  | [], i => by simp [wipe]
  | v :: vs, i => by
    unfold wipe
    by_cases hv : v = i
    · subst hv
      by_cases hl : v < σ.length
      · rw [List.getElem?_set_self (by rw [wipe_length]; exact hl), if_pos ⟨List.mem_cons_self .., hl⟩]
      · rw [List.getElem?_eq_none (by rw [List.length_set, wipe_length]; omega), if_neg (fun z => hl z.2), List.getElem?_eq_none (by omega)]
    · rw [List.getElem?_set_ne hv, wipe_get σ vs i]
      have : (i ∈ v :: vs) ↔ i ∈ vs := by simp [show ¬ i = v from fun e => hv e.symm]
      simp only [this]
theorem wipe_set {vs : List Nat} {i : Nat} {o : Option V} (h : i ∈ vs) : wipe (σ.set i o) vs = wipe σ vs := by
  apply List.ext_getElem?
  intro j
  rw [wipe_get, wipe_get, List.length_set]
  by_cases hj : j ∈ vs ∧ j < σ.length
  · rw [if_pos hj, if_pos hj]
  · rw [if_neg hj, if_neg hj]
    by_cases e : i = j
    · subst e
      have hl : ¬ i < σ.length := fun z => hj ⟨h, z⟩
      rw [List.getElem?_eq_none (by rw [List.length_set]; omega), List.getElem?_eq_none (by omega)]
    · rw [List.getElem?_set_ne e]
/-- a target that stores a block's own names alone -/
def Own (g : TG) (vs : List Nat) : Prop := ∀ x σ H (Q : L2.St → Hp → Prop), g x σ H Q → g x σ H fun σ2 H2 => wipe σ2 vs = wipe σ vs ∧ Q σ2 H2
theorem own_name {vs : List Nat} (h : i ∈ vs) : Own (gName i) vs := fun x σ H Q q => ⟨wipe_set h, q⟩
theorem own_tup2 {vs : List Nat} {n j : Nat} (h : i ∈ vs) (h' : j ∈ vs) : Own (gTup K n (gCons (gName i) (gCons (gName j) gNil))) vs := fun x σ H Q ⟨a, xs, e, s, l, q⟩ => by
  obtain ⟨v, r, e1, v2, r2, e2, e3, q⟩ := q
  exact ⟨a, xs, e, s, l, v, r, e1, v2, r2, e2, e3, by rw [wipe_set h', wipe_set h], q⟩
theorem wipe_wipe {vs : List Nat} : wipe (wipe σ vs) vs = wipe σ vs := by
  apply List.ext_getElem?
  intro j
  rw [wipe_get, wipe_length, wipe_get]
  split <;> rfl
/-- a list comprehension -/
theorem ev_lc {wi : TI} {g : TG} {vs : List Nat} (h : EvI B wi ρ O fun items need O1 => ∃ I : Nat → List PyData → Cs → Prop, I 0 [] O1 ∧ (∀ i acc O', i ≤ items.length → I i acc O' → acc.length < 100000 ∧ ∀ q ∈ need, q ∈ O') ∧
    (∀ i k acc O', items[i]? = some k → I i acc O' → Tg B g k (forget ρ vs) O' fun ρ2 O2 => EvT B tt ρ2 O2 fun b O3 => (b = true → Ev B te ρ2 O3 fun y O4 => ∃ d O5, y = .dat d ∧ Sub O5 O4 ∧ I (i + 1) (acc ++ [d]) O5) ∧ (b = false → ∃ O5, Sub O5 O3 ∧ I (i + 1) acc O5)) ∧
    ∀ acc O', I items.length acc O' → ∀ p, Φ (.ptr p) ((p, .lst acc) :: O'))
    (hg : Own g vs) : Ev B (tLc wi g tt te vs) ρ O Φ := fun σ H τ F R Q hQ =>
  h σ H τ F R _ fun J H1 items need O1 τ0 ⟨I, i0, iG, step, done⟩ R1 Wk => fun D hD => by
    refine ⟨fun i m H' => m = items.length - i ∧ i ≤ items.length ∧ ∃ acc O', I i acc O' ∧ Rs B H' σ ρ ((D, .lst acc) :: (O' ++ F)) (τ0 ++ τ), ⟨_, rfl, Nat.zero_le _, [], O1, i0, R1.lay (c := .lst []) (.lst []) hD ⟨[], upd_same, .nil⟩⟩, ?_⟩
    rintro i m H' ⟨rfl, hi, acc, O', hI, R'⟩
    obtain ⟨go, stop, yld⟩ := Wk H' σ ρ _ τ R' (fun q hq => List.mem_cons_of_mem _ (List.mem_append_left _ ((iG i acc O' hi hI).2 q hq)))
    by_cases hlt : i < items.length
    · refine .inr ⟨go i hlt, fun H2 => ∃ acc2 O2, I (i + 1) acc2 O2 ∧ Rs B H2 σ ρ ((D, .lst acc2) :: (O2 ++ F)) (τ0 ++ τ), fun H2 ⟨acc2, O2, h2, R2⟩ => ⟨items.length - (i + 1), by omega, rfl, hlt, acc2, O2, h2, R2⟩, fun x H2 y => ?_⟩
      have hk : items[i]? = some items[i] := List.getElem?_eq_getElem hlt
      have Ry := yld i _ x H2 hk y
      have pm : ∀ (c : Cell) (O2 : Cs), ((D, c) :: (O2 ++ F)).Perm (O2 ++ ((D, c) :: F)) := fun c O2 => List.perm_middle.symm
      have hg' := hg x (wipe σ vs) H2
      simp only [wipe_wipe] at hg'
      refine hg' _ ?_
      refine step i _ acc O' hk hI (wipe σ vs) H2 (saved σ ρ ++ (τ0 ++ τ)) ((D, .lst acc) :: F) x ?_ _ fun σ3 H3 ρ3 O3 h3 R3 => ?_
      · refine ((Ry.save.perm (pm _ _)).wiped vs).sub fun q hq => ?_
        simp only [List.mem_cons, List.mem_append] at hq ⊢
        rcases hq with h | h | h | h <;> simp [h]
      · refine h3 σ3 H3 _ ((D, .lst acc) :: F) R3 _ fun b H4 O4 hb R4 => ?_
        cases b with
        | true =>
          refine iteT (hb.1 rfl σ3 H4 _ ((D, .lst acc) :: F) R4 _ fun y H5 k5 O6 ⟨d, O5, e5, sb, hI5⟩ R5 => ?_)
          subst e5
          have R5 := R5.less sb
          have R6 := (Ry.load R5 (fun q hq => List.mem_cons_of_mem _ (List.mem_append_left _ hq))).perm (pm (.lst acc) O5).symm
          obtain ⟨ws, ew, dw⟩ := R6.cell (D, .lst acc) (List.mem_cons_self ..)
          have hy : Dt H5 y d := R6.top
          have gr : Grow [D] H5 (upd H5 D (.lst (ws ++ [y]))) := .put (by simp)
          have nt : NoT [D] H5 := fun s hs xs e => by
            simp at hs; subst hs; rw [ew] at e; cases e
          have dn : DtL (upd H5 D (.lst (ws ++ [y]))) (ws ++ [y]) (acc ++ [d]) := (dw.append (.cons hy .nil)).grow gr nt
          refine ⟨ws, ew, by rw [dw.length]; exact Nat.lt_of_lt_of_le (iG i acc O' hi hI).1 (by decide), acc ++ [d], O5, hI5, ?_⟩
          exact (R6.put (c' := .lst (acc ++ [d])) ⟨_, upd_same, dn⟩).sub fun q hq => List.mem_cons_of_mem _ (List.mem_append_right _ hq)
        | false =>
          obtain ⟨O5, sb, hI5⟩ := hb.2 rfl
          refine iteF ⟨acc, O5, hI5, ?_⟩
          have R4 := R4.less sb
          exact ((Ry.load R4 (fun q hq => List.mem_append_left _ hq)).perm (pm (.lst acc) O5).symm).sub fun q hq => List.mem_append_right _ hq
    · have e : i = items.length := by omega
      subst e
      refine .inl ⟨stop, hQ _ _ _ _ (done acc O' hI D) ?_⟩
      exact (R'.sub fun q hq => List.mem_append_right _ hq).push rfl
/-- owned objects let go, ahead of a step -/
theorem Ev.less {O' : Cs} (h : Ev B te ρ O' Φ) (sb : Sub O' O) : Ev B te ρ O Φ := fun σ H τ F R Q hQ => h σ H τ F (R.less sb) Q hQ
theorem Sx.less {O' : Cs} (h : Sx B t ρ O' E) (sb : Sub O' O) : Sx B t ρ O E := fun σ H τ F D R M => h σ H τ F D (R.less sb) M
theorem Ev.fg (h : Ev B te ρ O (Fg Φ)) : Ev B te ρ O Φ := fun σ H τ F R Q hQ => h σ H τ F R Q fun v H' k O' ⟨O2, sb, q⟩ R' => hQ v H' k O2 q (R'.less sb)
/-- a comprehension whose elements are told by a function and lay nothing that stays -/
theorem ev_lcF {wi : TI} {g : TG} {vs : List Nat} (h : EvI B wi ρ O fun items need O1 => ∃ (α : Type) (xs : List α) (κ : α → Kn) (f : α → Option PyData), items = xs.map κ ∧ xs.length < 100000 ∧ (∀ q ∈ need, q ∈ O1) ∧
    (∀ x ∈ xs, Tg B g (κ x) (forget ρ vs) O1 fun ρ2 O2 => EvT B tt ρ2 O2 fun b O3 => (b = true → Ev B te ρ2 O3 fun y O4 => ∃ d, y = .dat d ∧ f x = some d ∧ Sub O1 O4) ∧ (b = false → f x = none ∧ Sub O1 O3)) ∧
    ∀ p, Φ (.ptr p) ((p, .lst (xs.filterMap f)) :: O1)) (hg : Own g vs) : Ev B (tLc wi g tt te vs) ρ O Φ := by
  refine ev_lc (fun σ H τ F R Q hQ => h σ H τ F R Q fun J H' items need O' τ0 hh R' W => hQ J H' items need O' τ0 ?_ R' W) hg
  obtain ⟨α, xs, κ, f, rfl, hz, hn, step, done⟩ := hh
  refine ⟨fun i acc O2 => O2 = O' ∧ acc = (xs.take i).filterMap f, ⟨rfl, by simp⟩, fun i acc O2 hi hI => ?_, fun i k acc O2 hk hI => ?_, fun acc O2 hI p => ?_⟩
  · obtain ⟨rfl, rfl⟩ := hI
    refine ⟨Nat.lt_of_le_of_lt (List.length_filterMap_le _ _) (Nat.lt_of_le_of_lt ?_ hz), hn⟩
    rw [List.length_take]; exact Nat.min_le_right _ _
  · obtain ⟨rfl, rfl⟩ := hI
    rw [List.getElem?_map] at hk
    cases hx : xs[i]? with
    | none => rw [hx] at hk; cases hk
    | some x =>
      rw [hx] at hk
      cases hk
      have et : xs.take (i + 1) = xs.take i ++ [x] := by rw [List.take_add_one, hx]; rfl
      have st := step x (List.mem_of_getElem? hx)
      refine fun σ H τ F v R Q hQ => st σ H τ F v R Q fun σ' H' ρ' O3 hT R' => hQ σ' H' ρ' O3 ?_ R'
      refine fun σ H τ F R Q hQ => hT σ H τ F R Q fun b H' O4 hb R' => hQ b H' O4 ⟨fun e => ?_, fun e => ?_⟩ R'
      · refine (hb.1 e).imp fun y O5 ⟨d, e1, e2, sb⟩ => ⟨d, _, e1, sb, rfl, ?_⟩
        rw [et, List.filterMap_append]
        simp [e2]
      · obtain ⟨e2, sb⟩ := hb.2 e
        refine ⟨_, sb, rfl, ?_⟩
        rw [et, List.filterMap_append]
        simp [e2]
  · obtain ⟨rfl, rfl⟩ := hI
    rw [List.length_map, List.take_length]
    exact done p
end
end Sk

/-! Sk4: what is walked; calls of defs, of built-ins; fields; dicts. -/
namespace Sk
open PySem PySem.Spec PyProof.Rows L2
section
variable {B : Bs} {K : PySem.W.Frag} {ρ : Sl} {O F : Cs} {Φ Ψ : Kn → Cs → Prop} {ta tb tc te : TE} {tt tu : TT} {as : TA} {k x y : Kn} {i : Nat} {H : Hp} {σ : L2.St} {τ : List (V × Kn)} {p : Addr} {c c' : Cell}

/-! ### what is walked -/
section
variable {Λ : List Kn → Cs → Cs → Prop}
theorem aw_tup {a : Addr} {ds : List PyData} : AWalk B (Itt K a) (ds.map Kn.dat) [] [(V.ref a, Kn.dat (.tuple ds))] := fun H σ ρ O τ R _ => by
  have hv : Dt H (.ref a) (.tuple ds) := R.tmp (V.ref a, Kn.dat (.tuple ds)) (by simp)
  cases hv with
  | @tup _ xs _ e dl =>
    have hl := dl.length
    refine ⟨fun i hi => ?_, ⟨xs, SqT.of e, by rw [List.length_map]; omega⟩, fun i k x H' hk y => ?_⟩
    · rw [List.length_map] at hi
      exact ⟨xs, xs[i]'(by omega), SqT.of e, by simp [show i < xs.length by omega]⟩
    · obtain ⟨rfl, y⟩ := y
      rw [List.getElem?_map] at hk
      cases hd : ds[i]? with
      | none => rw [hd] at hk; cases hk
      | some d =>
        rw [hd] at hk
        cases hk
        obtain ⟨v, h1, h2⟩ := dl.get hd
        have h3 := y xs (SqT.of e)
        rw [h1] at h3
        cases h3
        exact R.push h2
theorem ei_tup {tl : TE} (h : Ev B tl ρ O fun k O1 => ∃ ds, k = .dat (.tuple ds) ∧ Λ (ds.map Kn.dat) [] O1) : EvI B (iTup K tl) ρ O Λ := fun σ H τ F R Q hQ =>
  h σ H τ F R _ fun v H1 k O1 ⟨ds, e, q⟩ R1 => by
    subst e
    have hv : Dt H1 v (.tuple ds) := R1.top
    cases hv with
    | @tup a xs _ e dl => exact ⟨a, rfl, ⟨xs, SqT.of e⟩, hQ _ H1 _ _ O1 [(V.ref a, Kn.dat (.tuple ds))] q R1 aw_tup⟩
theorem aw_list {a : Addr} {ds : List PyData} : AWalk B (Itl K a) (ds.map Kn.dat) [(a, .lst ds)] [] := fun H σ ρ O τ R hn => by
  obtain ⟨xs, e, dl⟩ := R.cell (a, .lst ds) (hn _ (by simp))
  have hl := dl.length
  refine ⟨fun i hi => ?_, ⟨xs, SqL.of e, by rw [List.length_map]; omega⟩, fun i k x H' hk y => ?_⟩
  · rw [List.length_map] at hi
    exact ⟨xs, xs[i]'(by omega), SqL.of e, by simp [show i < xs.length by omega]⟩
  · obtain ⟨rfl, y⟩ := y
    rw [List.getElem?_map] at hk
    cases hd : ds[i]? with
    | none => rw [hd] at hk; cases hk
    | some d =>
      rw [hd] at hk
      cases hk
      obtain ⟨v, h1, h2⟩ := dl.get hd
      have h3 := y xs (SqL.of e)
      rw [h1] at h3
      cases h3
      exact R.push h2
theorem ei_list {tl : TE} (h : Ev B tl ρ O fun k O1 => ∃ p ds, k = .ptr p ∧ (p, Cell.lst ds) ∈ O1 ∧ Λ (ds.map Kn.dat) [(p, .lst ds)] O1) : EvI B (iList K tl) ρ O Λ := fun σ H τ F R Q hQ =>
  h σ H τ F R _ fun v H1 k O1 ⟨p, ds, e, hm, q⟩ R1 => by
    subst e
    have hv : v = .ref p := R1.top
    obtain ⟨xs, e, dl⟩ := R1.cell (p, .lst ds) (List.mem_append_left _ hm)
    exact ⟨p, hv, ⟨xs, SqL.of e⟩, hQ _ H1 _ _ O1 [] q R1.pop aw_list⟩
theorem aw_lps {a : Addr} {ps : List Addr} : AWalk B (Itl K a) (ps.map Kn.ptr) [(a, .lps ps)] [] := fun H σ ρ O τ R hn => by
  have e : H a = some (.lst (ps.map V.ref)) := R.cell (a, .lps ps) (hn _ (by simp))
  refine ⟨fun i hi => ?_, ⟨_, SqL.of e, by rw [List.length_map, List.length_map]; omega⟩, fun i k x H' hk y => ?_⟩
  · rw [List.length_map] at hi
    exact ⟨_, (ps.map V.ref)[i]'(by rw [List.length_map]; exact hi), SqL.of e, by simp [hi]⟩
  · obtain ⟨rfl, y⟩ := y
    have h3 := y _ (SqL.of e)
    rw [List.getElem?_map] at hk h3
    cases hd : ps[i]? with
    | none => rw [hd] at hk; cases hk
    | some d =>
      rw [hd] at hk h3
      cases hk
      cases h3
      exact R.push rfl
theorem aw_rng {lo : Int} {n : Nat} : AWalk B (Itr lo n) ((List.range n).map fun (i : Nat) => Kn.dat (.int (lo + (i : Int)))) [] [] := fun H σ ρ O τ R hn => by
  refine ⟨fun i hi => (show i < n by simpa using hi), by show n ≤ _; simp, fun i k x H' hk y => ?_⟩
  obtain ⟨rfl, rfl⟩ := y
  rw [List.getElem?_map] at hk
  cases hd : (List.range n)[i]? with
  | none => rw [hd] at hk; cases hk
  | some d =>
    rw [hd] at hk
    cases hk
    have e2 : d = i := by
      rw [List.getElem?_eq_some_iff] at hd
      obtain ⟨_, e⟩ := hd
      simpa using e.symm
    subst e2
    exact R.push (.int _)
theorem ei_rng1 (h : EvA B as ρ O fun ks O1 => ∃ j : Int, ks = [.dat (.int j)] ∧ -(2 ^ 62) ≤ j ∧ j < 2 ^ 62 ∧ Λ ((List.range j.toNat).map fun (i : Nat) => Kn.dat (.int (0 + (i : Int)))) [] O1) : EvI B (iRng1 as) ρ O Λ := fun σ H τ F R Q hQ =>
  h σ H τ F R _ fun vs H1 ks O1 ⟨j, e, h1, h2, q⟩ hl R1 => by
    subst e
    match vs, hl with
    | [v], _ =>
      have hv : Dt H1 v (.int j) := R1.tmp (v, .dat (.int j)) (by simp)
      cases hv
      exact ⟨j, rfl, h1, h2, hQ _ H1 _ _ O1 [] q (R1.sub fun q hq => List.mem_append_right _ hq) aw_rng⟩
end

/-! ### calls of defs -/
/-- the promise taken: some of the owned objects go in, the rest stand by -/
def CallK (W : WT) (ks : List Kn) (O1 : Cs) (Φ : Kn → Cs → Prop) : Prop := ∃ Oc F', O1.Perm (Oc ++ F') ∧ W ks Oc fun k O' => Φ k (O' ++ F')
theorem callK0 {W : WT} {ks : List Kn} {O1 : Cs} (h : W ks [] fun k O' => Φ k (O' ++ O1)) : CallK W ks O1 Φ := ⟨[], O1, .refl _, h⟩
theorem spW_run {n : Nat} {W : WT} {ks : List Kn} {O1 : Cs} {vs : List V} {E : XK} (R : Rs B H σ ρ (O1 ++ F) τ) (hl : vs.length = ks.length) (hn : ks.length = n) (hv : ∀ q ∈ vs.zip ks, q.2.h H q.1) (h : CallK W ks O1 Φ) {Q : VK}
    (hQ : ∀ v H' k O', Φ k O' → Rs B H' σ ρ (O' ++ F) ((v, k) :: τ) → Q v H') : spW n W vs H Q E := by
  obtain ⟨Oc, F', pm, hw⟩ := h
  have pm' : (O1 ++ F).Perm (Oc ++ (F' ++ F)) := (pm.append_right F).trans (by rw [List.append_assoc])
  have R' := R.perm pm'
  refine ⟨by omega, ks, Oc, _, hl, hv, fun q hq => R'.cell q (List.mem_append_left _ hq), ?_, hw, fun v H' k O' q hk g hc hnd ho => ?_⟩
  · have := R'.nd
    rw [List.map_append] at this
    exact (List.nodup_append.mp this).1
  · have R2 := R.step pm' g hc hnd ho
    refine hQ v H' k _ q ?_
    rw [List.append_assoc]
    exact R2.push hk
theorem ev_call {n : Nat} {W : WT} {E : XK} (h : EvA B as ρ O fun ks O1 => ks.length = n ∧ CallK W ks O1 Φ) : Ev B (tCall (spW n W) [] E as) ρ O Φ := fun σ H τ F R Q hQ =>
  h σ H τ F R _ fun vs H1 ks O1 ⟨hn, hw⟩ hl R1 => by
    rw [List.append_nil]
    exact spW_run (R1.sub fun q hq => List.mem_append_right _ hq) hl hn (fun q hq => R1.tmp q (List.mem_append_left _ hq)) hw fun v H' k O' q R' => hQ v H' k O' q R'
/-- C(..), by its __init__ -/
theorem ev_make {C : Addr} {n : Nat} {W : WT} {E : XK} (h : EvA B as ρ O fun ks O1 => ks.length + 1 = n ∧ ∀ x, CallK W (.ptr x :: ks) ((x, .ins C []) :: O1) fun k O' => k = .dat .none ∧ Φ (.ptr x) O') : Ev B (tMake C (spW n W) [] E as) ρ O Φ := fun σ H τ F R Q hQ =>
  h σ H τ F R _ fun vs H1 ks O1 ⟨hn, hw⟩ hl R1 x dx hx hdx ne => by
    have R2 : Rs B H1 σ ρ (O1 ++ F) (vs.zip ks ++ τ) := R1
    have R3 := R2.new (.own x) hdx
    have hx3 : (upd H1 dx (.own x)) x = none := by rw [upd_ne (fun e => ne e.symm)]; exact hx
    have R4 := R3.lay (c := .ins C []) (.ins C dx []) hx3 ⟨dx, [], upd_same, .nil⟩
    rw [List.append_nil]
    refine spW_run (O1 := (x, .ins C []) :: O1) (F := F) (τ := τ) (R4.sub fun q hq => List.mem_append_right _ hq) (by simp [hl]) (by simpa using hn) (fun q hq => ?_) (hw x) fun v H' k O' q R' => ?_
    · rw [List.zip_cons_cons] at hq
      rcases List.mem_cons.mp hq with e | e
      · subst e; rfl
      · exact R4.tmp q (List.mem_append_left _ e)
    · obtain ⟨rfl, q⟩ := q
      have hv : Dt H' v .none := R'.top
      cases hv
      exact ⟨rfl, hQ _ _ _ _ q (R'.pop.push rfl)⟩

/-! ### fields of an instance -/
def lookF (fs : List (Str × PyData)) (f : Str) : Option PyData := fs.lookup f
theorem PF.look : ∀ {ws : List (Str × V)} {fs : List (Str × PyData)} {f : Str} {d : PyData}, PF H ws fs → fs.lookup f = some d → ∃ v, ws.lookup f = some v ∧ Dt H v d
  | _, _, _, _, .nil, e => by cases e
  | (g, v) :: _, (g', d') :: _, f, d, .cons r t, e => by
    obtain ⟨r1, r2⟩ := r
    simp only at r1 r2
    subst r1
    rw [List.lookup_cons] at e ⊢
    cases hb : f == g with
    | true =>
      rw [hb] at e
      cases e
      exact ⟨v, rfl, r2⟩
    | false =>
      rw [hb] at e
      exact PF.look t e
theorem ev_fld {f : Str} {C : Addr} (cl : Cls K C) (na : NoAttr K C f) (h : Ev B ta ρ O fun x O1 => ∃ p fs d, x = .ptr p ∧ (p, Cell.ins C fs) ∈ O1 ∧ fs.lookup f = some d ∧ Φ (.dat d) O1) : Ev B (tFld K ta f) ρ O Φ := fun σ H τ F R Q hQ =>
  h σ H τ F R _ fun v H1 k O1 ⟨p, fs, d, e, hm, hf, q⟩ R1 => by
    subst e
    have hv : v = .ref p := R1.top
    obtain ⟨dx, ws, e, pf⟩ := R1.cell (p, .ins C fs) (List.mem_append_left _ hm)
    obtain ⟨u, h1, h2⟩ := PF.look pf hf
    exact ⟨p, C, dx, ws, u, hv, e, cl, na, h1, hQ _ _ _ _ q (R1.pop.push h2)⟩
def putFd (f : Str) (d : PyData) : List (Str × PyData) → List (Str × PyData)
  | [] => [(f, d)]
  | (g, e) :: r => if g = f then (g, d) :: r else (g, e) :: putFd f d r
theorem PF.put {f : Str} {v : V} {d : PyData} (r : Dt H v d) : ∀ {ws : List (Str × V)} {fs : List (Str × PyData)}, PF H ws fs → PF H (putF f v ws) (putFd f d fs)
  | _, _, .nil => .cons ⟨rfl, r⟩ .nil
  | (g, u) :: ws, (g', e) :: fs, .cons q t => by
    have q1 : g = g' := q.1
    subst q1
    unfold putF putFd
    by_cases h : g = f
    · rw [if_pos h, if_pos h]
      exact .cons ⟨rfl, r⟩ t
    · rw [if_neg h, if_neg h]
      exact .cons q (PF.put r t)
theorem PF.length {ws : List (Str × V)} {fs : List (Str × PyData)} (h : PF H ws fs) : ws.length = fs.length := Paired.length h
theorem sx_fld {E : AE} {f : Str} {C : Addr} {tv : TE} (cl : Cls K C) (na : NoAttr K C f) (h : Ev B tv ρ O fun y O1 => ∃ d, y = .dat d ∧ Ev B ta ρ O1 fun x O2 => ∃ p fs j, x = .ptr p ∧ O2[j]? = some (p, Cell.ins C fs) ∧ fs.length < 1000 ∧ E.nx ρ (O2.set j (p, .ins C (putFd f d fs)))) : Sx B (sFld K ta tv f) ρ O E := fun σ H τ F D R M =>
  h σ H τ F R _ fun v H1 k O1 ⟨d, e, h2⟩ R1 => h2 σ H1 _ F R1 _ fun u H2 k2 O2 ⟨p, fs, j, e2, hj, hz, hn⟩ R2 => by
    subst e e2
    have hu : u = .ref p := R2.top
    have hv : Dt H2 v d := R2.tmp (v, .dat d) (by simp)
    obtain ⟨dx, ws, ew, pf⟩ := R2.cellAt hj
    have gr : Grow [p] H2 (upd H2 p (.ins C dx (putF f v ws))) := .put (by simp)
    have nt : NoT [p] H2 := fun s hs xs e => by
      simp at hs; subst hs; rw [ew] at e; cases e
    refine ⟨p, C, dx, ws, hu, ew, cl, na, by rw [pf.length]; exact hz, ?_⟩
    exact M.nx _ _ _ _ hn ((R2.pop.pop).setC hj (c' := .ins C (putFd f d fs)) ⟨dx, _, upd_same, PF.grow gr nt (pf.put hv)⟩)

/-! ### dicts with keys of ints -/
def tupI (ns : List Int) : PyData := .tuple (ns.map PyData.int)
def look (kvs : List (Tk × PyData)) (k : Tk) : Option PyData := (kvs.find? fun kv => decide (kv.1 = k)).map (·.2)
def put (kvs : List (Tk × PyData)) (k : Tk) (d : PyData) : List (Tk × PyData) :=
  if (kvs.any fun kv => decide (kv.1 = k)) = true then kvs.map (fun kv => if kv.1 = k then (kv.1, d) else kv) else kvs ++ [(k, d)]
theorem kI_inj {a b : Tk} : kI a = kI b ↔ a = b := by
  constructor
  · intro h
    exact List.map_inj_right (f := (Sum.inl : Int → Key)) (fun x y e => Sum.inl.inj e) |>.mp h
  · intro h; rw [h]
theorem kI_kV (ns : Tk) : (kI ns).map kV = ns.map V.int := by
  rw [List.map_map]; rfl
theorem Dt.tupI {a : Addr} {ns : Tk} (h : Dt H (.ref a) (tupI ns)) : H a = some (.tup ((kI ns).map kV)) := by
  unfold Sk.tupI at h
  cases h with
  | tup e dl => rw [kI_kV, ← dl.ints]; exact e
theorem Dt.ofKey {a : Addr} {ns : Tk} (h : H a = some (.tup ((kI ns).map kV))) : Dt H (.ref a) (Sk.tupI ns) := by
  rw [kI_kV] at h
  exact .tup h (DtL.of_ints ns)
theorem PD.look : ∀ {ws : List (List Key × V)} {kvs : List (Tk × PyData)} (k : Tk), PD H ws kvs → (look kvs k = none → valV ws (kI k) = none) ∧ ∀ d, Sk.look kvs k = some d → ∃ v, valV ws (kI k) = some v ∧ Dt H v d
  | _, _, k, .nil => ⟨fun _ => rfl, fun d e => by cases e⟩
  | (a, v) :: ws, (b, e) :: kvs, k, .cons q t => by
    obtain ⟨q1, q2⟩ := q
    simp only at q1 q2
    subst q1
    have ih := PD.look k t
    unfold Sk.look at ih ⊢
    by_cases h : b = k
    · subst h
      rw [valV_pos (p := (kI b, v)) rfl]
      simp only [List.find?_cons, decide_true, Option.map_some]
      exact ⟨(fun z => nomatch z), fun d z => by cases z; exact ⟨v, rfl, q2⟩⟩
    · rw [valV_neg (p := (kI b, v)) (fun z => h (kI_inj.mp z))]
      simp only [List.find?_cons, decide_eq_false h]
      exact ih
theorem PD.any {ws : List (List Key × V)} {kvs : List (Tk × PyData)} (k : Tk) (h : PD H ws kvs) : (ws.any fun kv => decide (kv.1 = kI k)) = kvs.any fun kv => decide (kv.1 = k) := by
  induction h with
  | nil => rfl
  | cons q t ih =>
    rw [List.any_cons, List.any_cons, ih, q.1]
    congr 1
    exact decide_eq_decide.mpr kI_inj
theorem PD.length {ws : List (List Key × V)} {kvs : List (Tk × PyData)} (h : PD H ws kvs) : ws.length = kvs.length := Paired.length h
theorem PD.putMap {k : Tk} {v : V} {d : PyData} (r : Dt H v d) : ∀ {ws : List (List Key × V)} {kvs : List (Tk × PyData)}, PD H ws kvs → PD H (ws.map fun kv => if kv.1 = kI k then (kv.1, v) else kv) (kvs.map fun kv => if kv.1 = k then (kv.1, d) else kv)
  | _, _, .nil => .nil
  | a :: _, b :: _, .cons q t => by
    rw [List.map_cons, List.map_cons]
    refine .cons ?_ (PD.putMap r t)
    by_cases e : b.1 = k
    · rw [if_pos e, if_pos (by rw [q.1, e])]
      exact ⟨q.1, r⟩
    · rw [if_neg e, if_neg (by rw [q.1]; exact fun z => e (kI_inj.mp z))]
      exact q
theorem PD.snoc {k : Tk} {v : V} {d : PyData} (r : Dt H v d) : ∀ {ws : List (List Key × V)} {kvs : List (Tk × PyData)}, PD H ws kvs → PD H (ws ++ [(kI k, v)]) (kvs ++ [(k, d)])
  | _, _, .nil => .cons ⟨rfl, r⟩ .nil
  | _, _, .cons q t => .cons q (PD.snoc r t)
theorem PD.put {ws : List (List Key × V)} {kvs : List (Tk × PyData)} {k : Tk} {v : V} {d : PyData} (r : Dt H v d) (h : PD H ws kvs) : PD H (putK ws (kI k) v) (put kvs k d) := by
  unfold putK Sk.put
  rw [PD.any k h]
  split
  · exact PD.putMap r h
  · exact PD.snoc r h
/-- a dict to be read -/
inductive Dk (O : Cs) : Kn → List (Tk × PyData) → Prop
  | dic {p : Addr} {kvs : List (Tk × PyData)} : (p, Cell.dic kvs) ∈ O → Dk O (.ptr p) kvs
  | fz {p : Addr} {od : Obj} {ws : List (List Key × V)} {kvs : List (Tk × PyData)} : (p, Cell.fz od ws kvs) ∈ O → Dk O (.ptr p) kvs
theorem Rs.dk {v : V} {kvs : List (Tk × PyData)} (R : Rs B H σ ρ (O ++ F) τ) (a : Dk O k kvs) (h : k.h H v) : ∃ p ws, v = .ref p ∧ Rd H p (.dT ws) ∧ PD H ws kvs := by
  cases a with
  | dic hm =>
    cases h
    obtain ⟨ws, e, pd⟩ := R.cell _ (List.mem_append_left _ hm)
    exact ⟨_, ws, rfl, .inl e, pd⟩
  | fz hm =>
    cases h
    obtain ⟨e, pd⟩ := R.cell _ (List.mem_append_left _ hm)
    exact ⟨_, _, rfl, .inr ⟨_, e⟩, pd⟩
theorem dget_of {d a : Addr} {ws : List (List Key × V)} {ns : Tk} (e : Rd H d (.dT ws)) (h : Dt H (.ref a) (Sk.tupI ns)) : DGet H d (.ref a) (valV ws (kI ns)) := .inr ⟨ws, kI ns, a, e, rfl, h.tupI, rfl⟩
theorem Dt.isRef {v : V} {ns : Tk} (h : Dt H v (Sk.tupI ns)) : ∃ a, v = .ref a := by
  unfold Sk.tupI at h
  cases h with
  | tup _ _ => exact ⟨_, rfl⟩
theorem ev_dget (h : Ev B ta ρ O fun x O1 => Ev B tb ρ O1 fun y O2 => ∃ kvs ns d, Dk O2 x kvs ∧ y = .dat (tupI ns) ∧ look kvs ns = some d ∧ Φ (.dat d) O2) : Ev B (tDGet ta tb) ρ O Φ := fun σ H τ F R Q hQ =>
  h σ H τ F R _ fun v H1 x O1 h1 R1 => h1 σ H1 _ F R1 _ fun w H2 y O2 ⟨kvs, ns, d, hk, e, hl, q⟩ R2 => by
    subst e
    obtain ⟨p, ws, e1, rd, pd⟩ := R2.dk hk (R2.tmp (v, x) (by simp))
    have hw : Dt H2 w (tupI ns) := R2.top
    obtain ⟨a, rfl⟩ := hw.isRef
    obtain ⟨u, hu, du⟩ := (PD.look ns pd).2 d hl
    exact ⟨p, u, e1, by rw [← hu]; exact dget_of rd hw, hQ _ _ _ _ q (R2.pop.pop.push du)⟩
theorem dk_isSome {ws : List (List Key × V)} {kvs : List (Tk × PyData)} (ns : Tk) (pd : PD H ws kvs) : (valV ws (kI ns)).isSome = (look kvs ns).isSome := by
  cases e : look kvs ns with
  | none => rw [(PD.look ns pd).1 e]; rfl
  | some d =>
    obtain ⟨u, hu, _⟩ := (PD.look ns pd).2 d e
    rw [hu]; rfl
theorem ev_din (h : Ev B tb ρ O fun y O1 => Ev B ta ρ O1 fun x O2 => ∃ kvs ns, Dk O2 x kvs ∧ y = .dat (tupI ns) ∧ Φ (.dat (.bool (look kvs ns).isSome)) O2) : Ev B (tDIn tb ta) ρ O Φ := fun σ H τ F R Q hQ =>
  h σ H τ F R _ fun w H1 y O1 h1 R1 => h1 σ H1 _ F R1 _ fun v H2 x O2 ⟨kvs, ns, hk, e, q⟩ R2 => by
    subst e
    obtain ⟨p, ws, e1, rd, pd⟩ := R2.dk hk R2.top
    have hw : Dt H2 w (tupI ns) := R2.tmp (w, .dat (tupI ns)) (by simp)
    obtain ⟨a, rfl⟩ := hw.isRef
    refine ⟨p, _, e1, dget_of rd hw, ?_⟩
    rw [dk_isSome ns pd]
    exact hQ _ _ _ _ q (R2.pop.pop.push (.bl _))
theorem ev_dnotin (h : Ev B tb ρ O fun y O1 => Ev B ta ρ O1 fun x O2 => ∃ kvs ns, Dk O2 x kvs ∧ y = .dat (tupI ns) ∧ Φ (.dat (.bool (!(look kvs ns).isSome))) O2) : Ev B (tDNotIn tb ta) ρ O Φ := fun σ H τ F R Q hQ =>
  h σ H τ F R _ fun w H1 y O1 h1 R1 => h1 σ H1 _ F R1 _ fun v H2 x O2 ⟨kvs, ns, hk, e, q⟩ R2 => by
    subst e
    obtain ⟨p, ws, e1, rd, pd⟩ := R2.dk hk R2.top
    have hw : Dt H2 w (tupI ns) := R2.tmp (w, .dat (tupI ns)) (by simp)
    obtain ⟨a, rfl⟩ := hw.isRef
    refine ⟨p, _, e1, dget_of rd hw, ?_⟩
    rw [dk_isSome ns pd]
    exact hQ _ _ _ _ q (R2.pop.pop.push (.bl _))
theorem sx_dput {E : AE} {tv : TE} (h : Ev B tv ρ O fun z O0 => ∃ d, z = .dat d ∧ Ev B ta ρ O0 fun x O1 => Ev B tb ρ O1 fun y O2 => ∃ p kvs ns j, x = .ptr p ∧ O2[j]? = some (p, Cell.dic kvs) ∧ y = .dat (tupI ns) ∧ kvs.length < 100000 ∧
    E.nx ρ (O2.set j (p, .dic (put kvs ns d)))) : Sx B (sDPut ta tb tv) ρ O E := fun σ H τ F D R M =>
  h σ H τ F R _ fun z H0 kz O0 ⟨d, ez, h1⟩ R0 => h1 σ H0 _ F R0 _ fun v H1 x O1 h1 R1 => h1 σ H1 _ F R1 _ fun w H2 y O2 ⟨p, kvs, ns, j, e1, hj, e2, hz, hn⟩ R2 => by
    subst ez e1 e2
    have hv : v = .ref p := R2.tmp (v, .ptr p) (by simp)
    have hw : Dt H2 w (tupI ns) := R2.top
    have hd : Dt H2 z d := R2.tmp (z, .dat d) (by simp)
    obtain ⟨a, rfl⟩ := hw.isRef
    obtain ⟨ws, ew, pd⟩ := R2.cellAt hj
    have gr : Grow [p] H2 (upd H2 p (.dT (putK ws (kI ns) z))) := .put (by simp)
    have nt : NoT [p] H2 := fun s hs xs e => by
      simp at hs; subst hs; rw [ew] at e; cases e
    refine ⟨p, _, hv, DPut.t ew hw.tupI (by rw [pd.length]; exact Nat.lt_of_lt_of_le hz (by decide)), ?_⟩
    exact M.nx _ _ _ _ hn ((R2.pop.pop.pop).setC hj (c' := .dic (put kvs ns d)) ⟨_, upd_same, PD.grow gr nt (PD.put hd pd)⟩)

/-! ### built-ins -/
theorem oc_len {ds : List PyData} (hx : Sq O x ds) (q : Φ (.dat (.int ds.length)) O) : OpC B (fun xs H Q => ∃ p ys, xs = [.ref p] ∧ (SqL K H p ys ∨ SqT K H p ys) ∧ Q (.int ys.length) H) [x] O Φ := fun σ ρ H τ F vs hl hv R Q hQ => by
  match vs, hl with
  | [v], _ =>
    obtain ⟨p, ws, rfl, e, dl⟩ := R.sq hx.app (hv (v, x) (by simp))
    refine ⟨p, ws, rfl, e.elim (fun e => .inl (SqL.of e)) (fun e => .inr (SqT.of e)), ?_⟩
    rw [dl.length]
    exact hQ _ _ _ _ q (R.push (.int _))
theorem oc_all {bs : List Bool} (hm : (p, Cell.lst (bs.map PyData.bool)) ∈ O) (q : Φ (.dat (.bool (bs.all id))) O) : OpC B (rAll K) [.ptr p] O Φ := fun σ ρ H τ F vs hl hv R Q hQ => by
  match vs, hl with
  | [v], _ =>
    have e : v = .ref p := hv (v, .ptr p) (by simp)
    obtain ⟨ws, ew, dl⟩ := R.cell _ (List.mem_append_left _ hm)
    have e2 := dl.bools
    subst e e2
    exact ⟨p, bs, rfl, SqL.of ew, hQ _ _ _ _ q (R.push (.bl _))⟩
theorem oc_any {bs : List Bool} (hm : (p, Cell.lst (bs.map PyData.bool)) ∈ O) (q : Φ (.dat (.bool (bs.any id))) O) : OpC B (rAny K) [.ptr p] O Φ := fun σ ρ H τ F vs hl hv R Q hQ => by
  match vs, hl with
  | [v], _ =>
    have e : v = .ref p := hv (v, .ptr p) (by simp)
    obtain ⟨ws, ew, dl⟩ := R.cell _ (List.mem_append_left _ hm)
    have e2 := dl.bools
    subst e e2
    exact ⟨p, bs, rfl, SqL.of ew, hQ _ _ _ _ q (R.push (.bl _))⟩
theorem oc_max {ns : List Int} (hm : (p, Cell.lst (ns.map PyData.int)) ∈ O) (h0 : 0 < ns.length) (q : ∀ m, m ∈ ns → (∀ y, y ∈ ns → y ≤ m) → Φ (.dat (.int m)) O) : OpC B (rMax K) [.ptr p] O Φ := fun σ ρ H τ F vs hl hv R Q hQ => by
  match vs, hl with
  | [v], _ =>
    have e : v = .ref p := hv (v, .ptr p) (by simp)
    obtain ⟨ws, ew, dl⟩ := R.cell _ (List.mem_append_left _ hm)
    have e2 := dl.ints
    subst e e2
    exact ⟨p, ns, rfl, SqL.of ew, h0, fun m h1 h2 => hQ _ _ _ _ (q m h1 h2) (R.push (.int _))⟩
theorem oc_tuple {ds : List PyData} (hx : Sq O x ds) (hz : ds.length ≤ 100000) (q : Φ (.dat (.tuple ds)) O) : OpC B (fun xs H Q => ∃ p ys, xs = [.ref p] ∧ ((SqL K H p ys ∧ ∀ l, H l = none → Q (.ref l) (upd H l (.tup ys))) ∨ (SqT K H p ys ∧ Q (.ref p) H))) [x] O Φ := fun σ ρ H τ F vs hl hv R Q hQ => by
  match vs, hl with
  | [v], _ =>
    obtain ⟨p, ws, rfl, e, dl⟩ := R.sq hx.app (hv (v, x) (by simp))
    refine ⟨p, ws, rfl, e.elim (fun e => .inl ⟨SqL.of e, fun l hl => ?_⟩) (fun e => .inr ⟨SqT.of e, ?_⟩)⟩
    · exact hQ _ _ _ _ q ((R.new _ hl).push (.tup upd_same (dl.grow (S := []) (.new hl) (fun _ z => nomatch z))))
    · exact hQ _ _ _ _ q (R.push (.tup e dl))
theorem oc_list {ds : List PyData} (hx : Sq O x ds) (q : ∀ l, Φ (.ptr l) ((l, .lst ds) :: O)) : OpC B (fun xs H Q => ∃ p ys, xs = [.ref p] ∧ (SqL K H p ys ∨ SqT K H p ys) ∧ ∀ l, H l = none → Q (.ref l) (upd H l (.lst ys))) [x] O Φ := fun σ ρ H τ F vs hl hv R Q hQ => by
  match vs, hl with
  | [v], _ =>
    obtain ⟨p, ws, rfl, e, dl⟩ := R.sq hx.app (hv (v, x) (by simp))
    refine ⟨p, ws, rfl, e.elim (fun e => .inl (SqL.of e)) (fun e => .inr (SqT.of e)), fun l hl => ?_⟩
    exact hQ _ _ _ _ (q l) ((R.lay (c := .lst ds) (.lst ws) hl ⟨ws, upd_same, dl.grow (S := []) (.new hl) (fun _ z => nomatch z)⟩).push rfl)
theorem oc_abs {n : Int} (q : Φ (.dat (.int (if n < 0 then -n else n))) O) : OpC B (fun xs H Q => ∃ i, xs = [.int i] ∧ Q (.int (if i < 0 then -i else i)) H) [.dat (.int n)] O Φ := fun σ ρ H τ F vs hl hv R Q hQ => by
  match vs, hl with
  | [v], _ =>
    have e : Dt H v (.int n) := hv (v, .dat (.int n)) (by simp)
    cases e
    exact ⟨n, rfl, hQ _ _ _ _ q (R.push (.int _))⟩
theorem oc_intI {n : Int} (q : Φ (.dat (.int n)) O) : OpC B (fun xs H Q => (∃ i, xs = [.int i] ∧ Q (.int i) H) ∨ ∃ k, xs = [.bl k] ∧ Q (.int (if k then 1 else 0)) H) [.dat (.int n)] O Φ := fun σ ρ H τ F vs hl hv R Q hQ => by
  match vs, hl with
  | [v], _ =>
    have e : Dt H v (.int n) := hv (v, .dat (.int n)) (by simp)
    cases e
    exact .inl ⟨n, rfl, hQ _ _ _ _ q (R.push (.int _))⟩
theorem oc_intB {b : Bool} (q : Φ (.dat (.int (if b then 1 else 0))) O) : OpC B (fun xs H Q => (∃ i, xs = [.int i] ∧ Q (.int i) H) ∨ ∃ k, xs = [.bl k] ∧ Q (.int (if k then 1 else 0)) H) [.dat (.bool b)] O Φ := fun σ ρ H τ F vs hl hv R Q hQ => by
  match vs, hl with
  | [v], _ =>
    have e : Dt H v (.bool b) := hv (v, .dat (.bool b)) (by simp)
    cases e
    exact .inr ⟨b, rfl, hQ _ _ _ _ q (R.push (.int _))⟩
theorem oc_gcd {a b : Int} (q : Φ (.dat (.int ((Nat.gcd a.natAbs b.natAbs : Nat) : Int))) O) : OpC B rGcd [.dat (.int a), .dat (.int b)] O Φ := fun σ ρ H τ F vs hl hv R Q hQ => by
  match vs, hl with
  | [v, w], _ =>
    have e : Dt H v (.int a) := hv (v, .dat (.int a)) (by simp)
    have e' : Dt H w (.int b) := hv (w, .dat (.int b)) (by simp)
    cases e
    cases e'
    exact ⟨a, b, rfl, hQ _ _ _ _ q (R.push (.int _))⟩
theorem oc_divmod {a b : Int} (hc : CDiv a b) (q : Φ (.dat (.tuple [.int (a / b), .int (a % b)])) O) : OpC B (fun xs H Q => ∃ i j, xs = [.int i, .int j] ∧ CDiv i j ∧ ∀ p, H p = none → Q (.ref p) (upd H p (.tup [.int (i / j), .int (i % j)]))) [.dat (.int a), .dat (.int b)] O Φ := fun σ ρ H τ F vs hl hv R Q hQ => by
  match vs, hl with
  | [v, w], _ =>
    have e : Dt H v (.int a) := hv (v, .dat (.int a)) (by simp)
    have e' : Dt H w (.int b) := hv (w, .dat (.int b)) (by simp)
    cases e
    cases e'
    exact ⟨a, b, rfl, hc, fun p hp => hQ _ _ _ _ q ((R.new _ hp).push (.tup upd_same (.cons (.int _) (.cons (.int _) .nil))))⟩
/-- the built-in type of a datum -/
def tyD : PyData → String
  | .none => "NoneType"
  | .bool _ => "bool"
  | .int _ => "int"
  | .str _ => "str"
  | .tuple _ => "tuple"
  | .list _ => "list"
  | .dict _ => "dict"
theorem Dt.ty {v : V} {d : PyData} (h : Dt H v d) : TyX K H v (.type (tyD d)) := by
  cases h with
  | non => exact .base .non
  | bl b => exact .base (.bl b)
  | int i => exact .base (.int i)
  | str s => exact .base (.str s)
  | tup e _ => exact .base (.tup e)
theorem oc_isi {d : PyData} {n : String} {b : Bool} (h : kitB (tyD d) n = some b) (q : Φ (.dat (.bool b)) O) : OpC B (rIsi K) [.dat d, .cls n] O Φ := fun σ ρ H τ F vs hl hv R Q hQ => by
  match vs, hl with
  | [v, w], _ =>
    have e : Dt H v d := hv (v, .dat d) (by simp)
    have e' : w = .ty n := hv (w, .cls n) (by simp)
    subst e'
    exact ⟨v, .ty n, _, _, b, rfl, .ty n, e.ty, kit_ty h, hQ _ _ _ _ q (R.push (.bl _))⟩
/-! ### methods of lists -/
def OpM (B : Bs) (r : V → List V → Hp → VK → Prop) (x : Kn) (ks : List Kn) (O : Cs) (Φ : Kn → Cs → Prop) : Prop :=
  ∀ σ ρ H τ F v vs, x.h H v → vs.length = ks.length → (∀ q ∈ vs.zip ks, q.2.h H q.1) → Rs B H σ ρ (O ++ F) τ → ∀ Q : VK, (∀ u H' k O', Φ k O' → Rs B H' σ ρ (O' ++ F) ((u, k) :: τ) → Q u H') → r v vs H Q
inductive IsL (O : Cs) : Kn → Prop
  | lst {p : Addr} {ds : List PyData} : (p, Cell.lst ds) ∈ O → IsL O (.ptr p)
  | lps {p : Addr} {ps : List Addr} : (p, Cell.lps ps) ∈ O → IsL O (.ptr p)
theorem Rs.tyL {v : V} (R : Rs B H σ ρ (O ++ F) τ) (a : IsL O k) (h : k.h H v) : tyV K "list" v H := by
  cases a with
  | lst hm =>
    cases h
    obtain ⟨ws, e, _⟩ := R.cell _ (List.mem_append_left _ hm)
    exact Or.inl ⟨rfl, _, SqL.of e⟩
  | lps hm =>
    cases h
    have e := R.cell _ (List.mem_append_left _ hm)
    exact Or.inl ⟨rfl, _, SqL.of e⟩
theorem ev_bm {r : V → List V → Hp → VK → Prop} (h : Ev B ta ρ O fun x O1 => IsL O1 x ∧ EvA B as ρ O1 fun ks O2 => OpM B r x ks O2 Φ) : Ev B (tBM K "list" r ta as) ρ O Φ := fun σ H τ F R Q hQ =>
  h σ H τ F R _ fun v H1 x O1 ⟨hL, h2⟩ R1 => ⟨R1.tyL hL R1.top, h2 σ H1 _ F R1 _ fun vs H2 ks O2 hr hl R2 =>
    hr σ ρ H2 τ F v vs (R2.tmp (v, x) (by simp)) hl (fun q hq => R2.tmp q (List.mem_append_left _ hq)) (R2.sub fun q hq => by simp [hq]) Q hQ⟩
theorem om_append {d : PyData} {ds : List PyData} {j : Nat} (hj : O[j]? = some (p, Cell.lst ds)) (hz : ds.length < 100000) (q : Φ (.dat .none) (O.set j (p, .lst (ds ++ [d])))) : OpM B rAppend (.ptr p) [.dat d] O Φ := fun σ ρ H τ F v vs hx hl hv R Q hQ => by
  match vs, hl with
  | [w], _ =>
    have hw : Dt H w d := hv (w, .dat d) (by simp)
    obtain ⟨ws, ew, dl⟩ := R.cellAt hj
    have gr : Grow [p] H (upd H p (.lst (ws ++ [w]))) := .put (by simp)
    have nt : NoT [p] H := fun s hs xs e => by
      simp at hs; subst hs; rw [ew] at e; cases e
    refine ⟨p, ws, w, hx, rfl, ew, by rw [dl.length]; exact Nat.lt_of_lt_of_le hz (by decide), hQ _ _ _ _ q (Rs.push ?_ .non)⟩
    exact R.setC hj (c' := .lst (ds ++ [d])) ⟨_, upd_same, (dl.append (.cons hw .nil)).grow gr nt⟩
/-- a pointer is appended -/
theorem om_appendP {r : Addr} {ps : List Addr} {j : Nat} (hj : O[j]? = some (p, Cell.lps ps)) (hz : ps.length < 100000) (q : Φ (.dat .none) (O.set j (p, .lps (ps ++ [r])))) : OpM B rAppend (.ptr p) [.ptr r] O Φ := fun σ ρ H τ F v vs hx hl hv R Q hQ => by
  match vs, hl with
  | [w], _ =>
    have hw : w = .ref r := hv (w, .ptr r) (by simp)
    have ew : H p = some (.lst (ps.map V.ref)) := R.cellAt hj
    refine ⟨p, _, w, hx, rfl, ew, by rw [List.length_map]; exact Nat.lt_of_lt_of_le hz (by decide), hQ _ _ _ _ q (Rs.push ?_ .non)⟩
    refine R.setC hj (c' := .lps (ps ++ [r])) ?_
    show upd H p _ p = some (.lst ((ps ++ [r]).map V.ref))
    rw [upd_same, hw, List.map_append]; rfl
theorem om_extend {b : Addr} {xs ds : List PyData} {j : Nat} (hj : O[j]? = some (p, Cell.lst ds)) (hb : (b, Cell.lst xs) ∈ O) (hz : ds.length + xs.length ≤ 100000) (q : Φ (.dat .none) (O.set j (p, .lst (ds ++ xs)))) : OpM B rExtend (.ptr p) [.ptr b] O Φ := fun σ ρ H τ F v vs hx hl hv R Q hQ => by
  match vs, hl with
  | [w], _ =>
    have hw : w = .ref b := hv (w, .ptr b) (by simp)
    subst hw
    obtain ⟨ws, ew, dl⟩ := R.cellAt hj
    obtain ⟨zs, ez, dz⟩ := R.cell _ (List.mem_append_left _ hb)
    have gr : Grow [p] H (upd H p (.lst (ws ++ zs))) := .put (by simp)
    have nt : NoT [p] H := fun s hs xs e => by
      simp at hs; subst hs; rw [ew] at e; cases e
    refine ⟨p, b, ws, zs, hx, rfl, ew, ez, by rw [dl.length, dz.length]; exact Nat.le_trans hz (by decide), hQ _ _ _ _ q (Rs.push ?_ .non)⟩
    exact R.setC hj (c' := .lst (ds ++ xs)) ⟨_, upd_same, (dl.append dz).grow gr nt⟩
/-- a new list that turns out to hold pointers: the empty one -/
theorem ev_lps (q : ∀ p, Φ (.ptr p) ((p, .lps []) :: O)) : Ev B (tLst tNil) ρ O Φ := fun σ H τ F R Q hQ => ⟨Nat.zero_le _, fun p hp =>
  hQ _ _ _ _ (q p) ((R.lay (c := .lps []) (.lst []) hp upd_same).push rfl)⟩
/-- two lists, a new one -/
theorem o_cat {a b : Addr} {xs ys : List PyData} (ha : (a, Cell.lst xs) ∈ O) (hb : (b, Cell.lst ys) ∈ O) (hz : xs.length + ys.length ≤ 100000) (q : ∀ p, Φ (.ptr p) ((p, .lst (xs ++ ys)) :: O)) : Op2 B rCat (.ptr a) (.ptr b) O Φ := fun σ ρ H τ F v w hv hw R Q hQ => by
  cases hv
  cases hw
  obtain ⟨ws, ew, dl⟩ := R.cell _ (List.mem_append_left _ ha)
  obtain ⟨zs, ez, dz⟩ := R.cell _ (List.mem_append_left _ hb)
  exact ⟨a, b, ws, zs, rfl, rfl, ew, ez, by rw [dl.length, dz.length]; exact Nat.le_trans hz (by decide), fun p hp =>
    hQ _ _ _ _ (q p) ((R.lay (c := .lst (xs ++ ys)) (.lst (ws ++ zs)) hp ⟨_, upd_same, (dl.append dz).grow (S := []) (.new hp) (fun _ z => nomatch z)⟩).push rfl)⟩
/-- a tuple's slice -/
def cutD (ds : List PyData) (lo hi : Option Int) : List PyData := (ds.drop (HT.sIx ds.length 0 lo)).take (HT.sIx ds.length ds.length hi - HT.sIx ds.length 0 lo)
def EvO (B : Bs) (to : TO) (ρ : Sl) (O : Cs) (Θ : Option Int → Cs → Prop) : Prop :=
  ∀ σ H τ F, Rs B H σ ρ (O ++ F) τ → ∀ Q : Option Int → Hp → Prop, (∀ o H' O', Θ o O' → Rs B H' σ ρ (O' ++ F) τ → Q o H') → to σ H Q
theorem eo_none {Θ : Option Int → Cs → Prop} (q : Θ none O) : EvO B tNoPart ρ O Θ := fun σ H τ F R Q hQ => hQ none H O q R
theorem eo_some {Θ : Option Int → Cs → Prop} (h : Ev B te ρ O fun x O1 => ∃ n, x = .dat (.int n) ∧ Θ (some n) O1) : EvO B (tPart te) ρ O Θ := fun σ H τ F R Q hQ =>
  h σ H τ F R _ fun v H1 x O1 ⟨n, e, q⟩ R1 => by
    subst e
    have hv : Dt H1 v (.int n) := R1.top
    cases hv
    exact ⟨n, rfl, hQ _ _ _ q R1.pop⟩
theorem ev_slT {tl th : TO} (h : Ev B te ρ O fun x O1 => ∃ ds, x = .dat (.tuple ds) ∧ EvO B tl ρ O1 fun lo O2 => EvO B th ρ O2 fun hi O3 => Φ (.dat (.tuple (cutD ds lo hi))) O3) : Ev B (tSl (rSlA K) te tl th) ρ O Φ := fun σ H τ F R Q hQ =>
  h σ H τ F R _ fun v H1 x O1 ⟨ds, e, h1⟩ R1 => h1 σ H1 _ F R1 _ fun lo H2 O2 h2 R2 => h2 σ H2 _ F R2 _ fun hi H3 O3 q R3 => by
    subst e
    have q : Φ (.dat (.tuple (cutD ds lo hi))) O3 := q
    have hv : Dt H3 v (.tuple ds) := R3.top
    cases hv with
    | @tup a xs _ e dl =>
      have hl := dl.length
      refine ⟨a, xs, rfl, SqT.of e, fun hw => ?_, fun _ p hp => ?_⟩
      · have ec : cutD ds lo hi = ds := by
          unfold cutD
          rw [← hl, hw.1, hw.2, List.drop_zero, Nat.sub_zero, hl, List.take_length]
        rw [ec] at q
        exact hQ _ _ _ _ q (R3.pop.push (.tup e dl))
      · refine hQ _ _ _ _ q ((R3.pop.new _ hp).push (.tup upd_same ?_))
        refine DtL.grow (S := []) (.new hp) (fun _ z => nomatch z) ?_
        unfold cutV cutD
        rw [← hl]
        exact (dl.drop _).take _
end
end Sk

/-! Sk5: the facts of the top in short; a def of the text and its promise as one fact. -/
namespace Sk
open PySem PySem.Spec PyProof.Rows L2

/-- built-ins by their names, and the constants of the text -/
structure Bt (mg : Str → Option Value) : Prop where
  len_ : mg "len" = none
  isinstance_ : mg "isinstance" = none
  all_ : mg "all" = none
  any_ : mg "any" = none
  max_ : mg "max" = none
  abs_ : mg "abs" = none
  divmod_ : mg "divmod" = none
  sorted_ : mg "sorted" = none
  repr_ : mg "repr" = none
  tuple_ : mg "tuple" = none
  list_ : mg "list" = none
  int_ : mg "int" = none
  bool_ : mg "bool" = none
  str_ : mg "str" = none
  dict_ : mg "dict" = none
  zip_ : mg "zip" = none
  enumerate_ : mg "enumerate" = none
  range_ : mg "range" = none
  gcd_ : mg "gcd" = some (.builtin "math.gcd")
  leaves : ∃ t, mg "MOST_LEAVES" = some (.int 24 t)
  deep : ∃ t, mg "MOST_DEEP" = some (.int 6 t)
  trees : ∃ t, mg "MOST_TREES" = some (.int 8 t)
  planes : ∃ t, mg "MOST_PLANES" = some (.int 10 t)

/-- where a def of the text stands -/
structure Df (K : PySem.W.Frag) (mg : Str → Option Value) (x : Str) (st : Stmt) (f : Addr) (fd : FuncData) : Prop where
  fn : Fun K x x st f fd
  at_ : mg x = some (.ref f)
/-- a def that keeps its promise W, for n arguments, by at most level k -/
def Cl (P : Program) (w : World) (K : PySem.W.Frag) (mg : Str → Option Value) (base : Heap) (x : Str) (k n : Nat) (W : WT) : Prop :=
  ∃ f fd ps, FnOk P w K mg base CX0 k f fd ps (spW n W) ∧ mg x = some (.ref f) ∧ PySem.W.keepIn K (.ref f) = true ∧ Binds K fd ps []
section
variable {P : Program} {w : World} {K : PySem.W.Frag} {mg : Str → Option Value} {base : Heap}
theorem Cl.mono {x : Str} {j k n : Nat} {W : WT} (h : Cl P w K mg base x j n W) (l : j ≤ k) : Cl P w K mg base x k n W := by
  obtain ⟨f, fd, ps, F, r⟩ := h
  exact ⟨f, fd, ps, F.mono l, r⟩
/-- a weaker promise -/
theorem Cl.imp {x : Str} {k n : Nat} {W W' : WT} (h : Cl P w K mg base x k n W) (hw : ∀ ks O Φ, ks.length = n → W' ks O Φ → ∃ Oc F', O.Perm (Oc ++ F') ∧ W ks Oc fun k O' => Φ k (O' ++ F')) : Cl P w K mg base x k n W' := by
  obtain ⟨f, fd, ps, F, r⟩ := h
  refine ⟨f, fd, ps, F.imp fun vs H Q E h => ?_, r⟩
  obtain ⟨hl, ks, O, Φ, h1, h2, h3, h4, h5, q⟩ := h
  have R : Rs ⟨O.map (·.1), H⟩ H [] [] (O ++ []) [] := by
    rw [List.append_nil]
    exact ⟨.refl _ _, rfl, fun i k e => by simp at e, (fun q hq => nomatch hq), h3, h4, fun q hq => .inl (List.mem_map.mpr ⟨q, hq, rfl⟩)⟩
  refine spW_run R h1 (by omega) h2 (hw ks O Φ (by omega) h5) fun v H' k O' p R' => ?_
  rw [List.append_nil] at R'
  exact q v H' k O' p R'.top R'.grow R'.cell R'.nd R'.own
theorem cl_of {x : Str} {st : Stmt} {f : Addr} {fd : FuncData} {N ps : List Str} (k n : Nat) {W : WT} (F : Df K mg x st f fd) (S : FnScope N ps (defScope st)) (hn : ps.length = n)
    (hb : ∀ (kV doc pm : Value) (an : Option Addr) (cdv ct : Value) (us : List Value), us.length = ps.length → bindArgs (PySem.W.fnOf x x (defArgs st) (defBody st) (defScope st) .none kV doc pm an cdv ct) ⟨us, []⟩ = pure (ps.zip us))
    (hbody : ∀ (cdv : Value) (A : Around) (outer : List Env) (s : Shared) (H : Hp) (E : XK), Room k (A.deeper (envOfC x (defScope st) s.heap.objs.size f cdv)) →
      ∃ t, PSs (cxOf CX0 P w K mg base N x (defScope st) f cdv A outer s H E).nox (defBody st) t ∧ Bx n N.length W t) : Cl P w K mg base x (k + 1) n W :=
  ⟨f, fd, ps, fn_sk n F.fn S hn hbody, F.at_, F.fn.kp, F.fn.binds hb⟩
end
section
variable {X : Cx}
theorem hu65 {k : Nat} {A : Around} (hr : Room k A) : A.units + 65 < cLine := by have := hr.un; omega
theorem pe_cl {x : Str} {k n : Nat} {W : WT} {t : TA} {p pos : Pos} {e : Expr} {es : List Expr} (C : Cl X.prog X.w X.K X.mg X.base x k n W) (hr : Room k X.A) (hg : Gl X x) (ha : PA X (e :: es) t)
    (hdb : (x == ("__debug__" : Str)) = false := by decide) (he : starEach (e :: es) X.env = (false, eval e X.env) :: starEach es X.env := by rfl) (hpl : (backTo pos (starEach es X.env)).any (·.1) = false := by rfl) :
    PE X (.Call (.Name x p) (e :: es) [] pos) (tCall (spW n W) [] E0 t) := by
  obtain ⟨f, fd, ps, F, hm, kp, b⟩ := C
  exact pe_call F hr hg hm kp b .nil pass0 ha hdb he hpl
/-- two truth values' difference -/
def rSubB : R2 := fun x y H Q => ∃ a b, x = .bl a ∧ y = .bl b ∧ Q (.int (b2i a - b2i b)) H
theorem op_subB : OpR X (binaryOp .Sub) rSubB := by
  intro pins s σ H x y v u Q I rx ry h
  obtain ⟨a, b, rfl, rfl, q⟩ := h
  cases rx
  cases ry
  exact sub_bool ⟨.int _, H, I.tok _, ⟨_, rfl⟩, q⟩
end
section
variable {B : Bs} {ρ : Sl} {O : Cs} {Φ : Kn → Cs → Prop}
theorem o_subB {a b : Bool} (q : Φ (.dat (.int (b2i a - b2i b))) O) : Op2 B rSubB (.dat (.bool a)) (.dat (.bool b)) O Φ := fun σ ρ H τ F v w hv hw R Q hQ => by
  cases hv
  cases hw
  exact ⟨a, b, rfl, rfl, hQ _ _ _ _ q (R.push (.int _))⟩
end
end Sk

/-! Nw1: new rules at the hand layer: dicts with tuple keys walked by keys and by items, locked as they are walked. -/
namespace Nw
open PySem PySem.Spec PyProof.Rows L2

section
variable {X : Cx} {pins : List (Addr × Obj)} {σ : L2.St} {H : Hp} {s : Shared} {d : Addr} {o : Obj}
/-- what a locked dict's object holds, entry by entry -/
theorem frz_both {kvs : List (List Key × V)} (I : Inv X pins σ H s) (h : H d = some (.frz o (.dT kvs))) :
    (d == sysModules) = false ∧ s.heap.get? d = some o ∧ o.ExactDict ∧ ∃ (es : Array DictEntry) (ep : Nat), o.data = .dict es ep ∧ es.size = kvs.length ∧
      ∀ (i : Nat) (k : List Key) (v : V), kvs[i]? = some (k, v) → ∃ (en : DictEntry) (q : Addr), es[i]? = some en ∧ en.key = .ref q ∧ RelV v en.val ∧ H q = some (.tup (k.map kV)) := by
  have hob := I.hok d _ h
  obtain ⟨hd, z, hs, xs, pr, o', es, ep, ho, hx, hdt, he, hnd⟩ := hob
  have eo : o = o' := Option.some.inj (hd.symm.trans ho)
  subst eo
  have l1 : es.size = xs.length := size_of_entries he
  have l2 : kvs.length = xs.length := Paired.length pr
  refine ⟨hs, hd, hx, es, ep, hdt, by omega, ?_⟩
  intro i k v e
  obtain ⟨b, hb, e1, e2, e3⟩ := paired_get pr e
  have q := entry_at he i
  rw [hb] at q
  exact ⟨_, b.2.1, q, rfl, e3, e2⟩
end

/-- the keys, the dict locked from here on -/
def iKeysF (td : TE) : TI := fun σ H R => td σ H fun x H1 => ∃ d, x = .ref d ∧ ((∃ ws, H1 d = some (.dT ws) ∧ ∀ od, R (Itkt d od ws) (upd H1 d (.frz od (.dT ws)))) ∨ ∃ od ws, H1 d = some (.frz od (.dT ws)) ∧ R (Itkt d od ws) H1)
/-- the pairs of the locked dict, each a new tuple -/
def ItiT (d : Addr) (o : Obj) (kvs : List (List Key × V)) : It :=
  ⟨fun i H => H d = some (.frz o (.dT kvs)) ∧ i < kvs.length,
   fun i H x H' => ∃ (T q : Addr) (k : List Key) (v : V), kvs[i]? = some (k, v) ∧ x = .ref T ∧ H T = none ∧ H q = some (.tup (k.map kV)) ∧ H' = upd H T (.tup [.ref q, v]),
   fun i H => H d = some (.frz o (.dT kvs)) ∧ kvs.length ≤ i⟩
def iItemsF (td : TE) : TI := fun σ H R => td σ H fun x H1 => ∃ d ws, x = .ref d ∧ H1 d = some (.dT ws) ∧ ∀ od, R (ItiT d od ws) (upd H1 d (.frz od (.dT ws)))
section
variable {P : Program} {w : World} {K : PySem.W.Frag} {d : Addr} {o : Obj} {es : Array DictEntry} {ep : Nat}
theorem turn_itemsT {kvs : List (List Key × V)} {elts : List Expr} {kk : Nat} {tpos : Pos} (it : Addr) (hod : o.data = .dict es ep) :
    Turn P w K (.Tuple elts kk tpos) (ItiT d o kvs) [it] it (fun i h => ∃ ok ov, IsItemIter h it d i kvs.length ep ok ov) where
  mem := List.mem_singleton.mpr rfl
  obj := by
    intro i h ⟨ok, ov, e⟩ b hb
    rw [List.mem_singleton.mp hb]
    exact ⟨_, e, fun v z => nomatch z⟩
  keep := by
    intro i h h' ⟨ok, ov, e⟩ k
    exact ⟨ok, ov, k it (List.mem_singleton.mpr rfl) _ e⟩
  self := by
    intro A i s Q E ⟨_, _, e⟩ h
    exact PySem.W.kcp_self e h
  item := by
    intro X hP hw hK hc i pins s σ H E I hf st hg
    subst hP hw hK
    obtain ⟨hd, hi⟩ := hg
    obtain ⟨hs, hgd, hx, es', ep', hdt, hsz, ent⟩ := frz_both I hd
    obtain ⟨rfl, rfl⟩ := dict_ep hod hdt
    obtain ⟨⟨k, v⟩, hkv⟩ : ∃ p, kvs[i]? = some p := ⟨kvs[i], List.getElem?_eq_getElem hi⟩
    obtain ⟨en, q, hen, hkey, rv, hq⟩ := ent i k v hkv
    obtain ⟨ok, ov, he⟩ := st
    have hlt : it < s.heap.objs.size := Heap.lt_size he
    have hie : i < es'.size := by omega
    have een : es'[i] = en := by
      have := Array.getElem?_eq_getElem hie
      rw [this] at hen
      exact Option.some.inj hen
    rw [← hsz] at he
    refine wpAny_pyNext_items_item_raw he ⟨o, hgd, hx, hdt⟩ hie fun h' ho hT hz hk => ?_
    refine ⟨_, rfl, wpAny_letOwnedTupleGo_items (s := { s with heap := h' }) ho fun h'' he' sb => ?_⟩
    have hT2 : h''.get? s.heap.objs.size = some { cls := .type "tuple", data := .seq #[es'[i].key, es'[i].val] } := (sb.2 _ (Nat.ne_of_gt hlt)).trans hT
    have new : ObjOk X.prog X.w (upd H s.heap.objs.size (.tup [.ref q, v])) h'' s.heap.objs.size (.tup [.ref q, v]) :=
      ⟨by show 2 ≤ sizeLine; decide, [es'[i].key, es'[i].val], .cons (by rw [een]; exact hkey) (.cons (by rw [een]; exact rv) .nil), ⟨_, hT2, rfl, _, rfl⟩⟩
    have I1 : Inv X pins σ (upd H s.heap.objs.size (.tup [.ref q, v])) { s with heap := h'' } :=
      I.turnedNew (t' := s.toks) (ch := [it]) (fun b ob hb e => (sb.2 b (by simpa using hb)).trans (hk b ob (by simpa using hb) e)) hf (Nat.le_refl _) new
    refine ⟨.ref s.heap.objs.size, _, I1, rfl, ⟨_, q, k, v, hkv, rfl, I.hok.fresh (Nat.le_refl _), hq, rfl⟩, ⟨_, _, by rw [← hsz]; exact he'⟩, fun b hb => ?_⟩
    rw [List.mem_singleton.mp hb, upd_ne (Nat.ne_of_lt hlt)]
    exact (hf it (List.mem_singleton.mpr rfl)).1
  done := by
    intro X hP hw hK hc i pins s σ H E I hf st hg
    subst hP hw hK
    obtain ⟨hd, hi⟩ := hg
    obtain ⟨f0, f1, f2, f3, f4, f5⟩ := hf it (List.mem_singleton.mpr rfl)
    obtain ⟨hs, hgd, hx, es', ep', hdt, hsz, ent⟩ := frz_both I hd
    obtain ⟨rfl, rfl⟩ := dict_ep hod hdt
    obtain ⟨ok, ov, he⟩ := st
    rw [← hsz] at he
    exact wpAny_pyNext_items_end_raw (I.ok.hd hc) he ⟨o, hgd, hx, hdt⟩ (by omega) fun h' eb => ⟨rfl, I.turned (t' := s.toks) (fun b ob hb e => eb b ob hb e) f0 f1 f3 f4 f5⟩
end
section
variable {X : Cx} {tg e : Expr} {td : TE} {apos cpos : Pos}
theorem pi_keysF (he : PE X e td) : PI X tg e (iKeysF td) := by
  refine ⟨fun pins s σ H R I h => ?_⟩
  refine thn (he.run pins s σ H _ I h) fun u s1 ⟨x, H1, I1, rx, d, ex, q⟩ => ?_
  subst ex
  have eu : u = Value.ref d := rx
  subst eu
  have fin : ∀ (od : Obj) (ws : List (List Key × V)) (H2 : Hp), Inv X pins σ H2 s1 → H2 d = some (.frz od (.dT ws)) → R (Itkt d od ws) H2 →
      wpAny (model X.prog X.w) X.A (pyIter (.ref d)) (PIE X pins σ tg R) X.xe s1 := fun od ws H2 I2 hd q2 => by
    obtain ⟨hs, hgd, hx, es, ep, hdt, hsz, ent⟩ := I2.frzT hd
    refine iter_keys hs hgd hx hdt (pi_one (tk := s1.toks) I2 _ (turn_keysT _ hdt) ⟨_, Heap.get?_push_size _ rfl, rfl, ?_⟩ q2)
    rw [hsz] <;> rfl
  rcases q with ⟨ws, hd, q⟩ | ⟨od, ws, hd, q⟩
  · obtain ⟨od, I2⟩ := I1.lock hd trivial
    exact fin od ws _ I2 upd_same (q od)
  · exact fin od ws _ I1 hd q
theorem pi_itemsF {elts : List Expr} {kk : Nat} {tpos : Pos} (he : PE X e td) (hbase : attributeBase e "items" X.env (eval e X.env) = eval e X.env := by rfl) (hline : (apos.endLine == cpos.line) = true := by rfl) :
    PI X (.Tuple elts kk tpos) (.Call (.Attribute e "items" apos) [] [] cpos) (iItemsF td) := by
  refine ⟨fun pins s σ H R I h => ?_⟩
  refine wpAny_Call_method (T := "dict") (id := "dict.items") hbase rfl hline F.plainAttrs_dict F.slot_dict_items F.type_dict_items (thn (he.run pins s σ H _ I h) fun u s1 ⟨x, H0, I0, rx, d, ws, ex, hd0, q⟩ => ?_)
  subst ex
  have eu : u = Value.ref d := rx
  subst eu
  obtain ⟨od, I1⟩ := I0.lock hd0 trivial
  have hd : (upd H0 d (.frz od (.dT ws))) d = some (.frz od (.dT ws)) := upd_same
  obtain ⟨hs, hgd, hx, es, ep, hdt, hsz, ent⟩ := frz_both I1 hd
  have raw : s1.heap.DictRaw d es ep := ⟨od, hgd, hx, hdt⟩
  refine ⟨raw.typeIs, fun a e => by cases e; exact ⟨od, hgd, hx.2.1⟩, ?_⟩
  have I2 : Inv X pins σ (upd H0 d (.frz od (.dT ws))) { s1 with heap := s1.heap.push { cls := .type "dict_items", data := .fields #[.ref d] } } := I1.kept (t' := s1.toks) fun b ob q => Heap.get?_push_of_some _ q
  have raw2 : (s1.heap.push { cls := .type "dict_items", data := .fields #[.ref d] }).DictRaw d es ep := raw.at fun _ e => Heap.get?_push_of_some _ e
  have fin : wpAny (model X.prog X.w) X.A (pyIter (.ref s1.heap.objs.size)) (PIE X pins σ (.Tuple elts kk tpos) R) X.xe { s1 with heap := s1.heap.push { cls := .type "dict_items", data := .fields #[.ref d] } } := by
    refine wpAny_pyIter_items_raw (s := { s1 with heap := s1.heap.push { cls := .type "dict_items", data := .fields #[.ref d] } }) (d := d) ⟨_, Heap.get?_push_size _ rfl, rfl, rfl⟩ raw2 (pi_one (tk := s1.toks) I2 _ (turn_itemsT _ hdt) ⟨.none, .none, ?_⟩ (q od))
    rw [← hsz]
    exact Heap.get?_push_size _ rfl
  show wpAny _ _ (callWith cpos (.builtin "dict.items") [.ref d] [] []) _ X.xe s1
  exact method_meetsIn F.slot_dict_items F.entry_dict_items rfl (PySem.evalArgs_none ⟨rfl, raw.typeIs, F.args_dict_items_1 _, _, meets_dict_items_raw d hs, ⟨es, ep, raw⟩, fin⟩)
end
end Nw

/-! Nw2: sorted of tuples of ints, of a list or of a dict's keys, any number. -/
namespace Nw
open PySem PySem.Spec PyProof.Rows L2 PySem.W

/-- values that are tuples of these ints -/
def TupsAt (H : Hp) : List V → List (List Int) → Prop := Paired fun v k => ∃ a, v = .ref a ∧ H a = some (.tup (k.map V.int))
def encI (k : List Int) : PyData := .tuple (k.map PyData.int)
def sortI (ks : List (List Int)) : List (List Int) := ks.mergeSort (dataLe false encI)

section
variable {prog : Program} {w : World} {A : Around} {s : Shared} {vs : List Value} {ds : List PyData}
/-- a row of at most one thing can be sorted -/
theorem sortsAt_small (e : EachIs (fun v d => ∃ as, Reads s.heap v d as) vs ds) (hal : AllAlike ds) (hn : ∀ d, d ∈ ds → d ≠ .none) (hu : ∀ d, d ∈ ds → A.units + d.depth < cLine) (h1 : vs.length ≤ 1) : SortsAt prog w A s (dataKind s.heap ds) vs := by
  refine ⟨fun v hv => ?_, general', ?_, fun h2 => absurd h2 (by omega)⟩
  · obtain ⟨d, hd, as, r⟩ := e.left v hv
    exact ⟨_, dataKind_some hal hd r⟩
  · intro E x y a b Q ha hb hq
    obtain ⟨d, as, hd, ra, rfl⟩ := dataKind_inv ha
    obtain ⟨d', as', hd', rb, rfl⟩ := dataKind_inv hb
    show wpAny _ _ (oneLt' false x y) _ _ _
    exact oneLt_alike (fun z => nomatch z) ra rb (hal d hd d' hd') (hn d hd) (Nat.lt_of_le_of_lt (Nat.add_le_add_left (Nat.min_le_left _ _) _) (hu d hd)) hq
end
theorem alike_encI (k k' : List Int) : alike (encI k) (encI k') = true := by
  unfold encI
  simp only [alike]
  exact alike_ints k k'
theorem depth_encI (k : List Int) : (encI k).depth ≤ 1 := by
  unfold encI
  simp only [PyData.depth, depth_ints]
  omega
section
variable {X : Cx} {pins : List (Addr × Obj)} {σ : L2.St} {H : Hp} {s : Shared}
/-- a tuple of ints in the heap reads as data -/
theorem reads_encI (I : Inv X pins σ H s) {a : Addr} {k : List Int} (h : H a = some (.tup (k.map V.int))) : ∃ as, Reads s.heap (.ref a) (encI k) as := by
  have hd : Dp X.K H (.ref a) (encI k) := by
    refine .tup (SqT.of h) ?_
    clear h
    induction k with
    | nil => exact .nil
    | cons n r ih => exact .cons (.int n) ih
  exact Dp.reads I _ _ _ hd rfl
/-- the relation that the sorted values keep -/
def RT (H : Hp) (u : Value) (k : List Int) : Prop := ∃ a, u = .ref a ∧ H a = some (.tup (k.map V.int))
theorem each_RT : ∀ {vs : List V} {us : List Value} {ks : List (List Int)}, TupsAt H vs ks → Vals vs us → EachIs (RT H) us ks
  | _, _, _, .nil, .nil => .nil
  | _, _, _, .cons ⟨a, e, h⟩ t, .cons r t' => by
    subst e
    cases r
    exact .cons ⟨a, rfl, h⟩ (each_RT t t')
theorem RT_tups : ∀ {us : List Value} {ks : List (List Int)}, EachIs (RT H) us ks → ∃ vs, TupsAt H vs ks ∧ Vals vs us
  | _, _, .nil => ⟨[], .nil, .nil⟩
  | _, _, .cons ⟨a, e, h⟩ t => by
    obtain ⟨vs, h1, h2⟩ := RT_tups t
    subst e
    exact ⟨.ref a :: vs, .cons ⟨a, rfl, h⟩ h1, .cons rfl h2⟩
theorem reads_RT (I : Inv X pins σ H s) : ∀ {us : List Value} {ks : List (List Int)}, EachIs (RT H) us ks → EachIs (fun v k => ∃ as, Reads s.heap v (encI k) as) us ks
  | _, _, .nil => .nil
  | _, _, .cons ⟨a, e, h⟩ t => by
    subst e
    exact .cons (reads_encI I h) (reads_RT I t)
theorem sortable_of {us : List Value} {ks : List (List Int)} {A : Around} {s' : Shared} {n : Nat} (er : EachIs (fun v k => ∃ as, Reads s'.heap v (encI k) as) us ks) (hu : A.units + 1 < cLine) (hn : ∀ k ∈ ks, k.length = n) (h0 : n ≠ 0 ∨ ks.length ≤ 1) :
    SortsAt X.prog X.w A s' (dataKind s'.heap (ks.map encI)) us := by
  have hal : AllAlike (ks.map encI) := AllAlike.of alike_encI
  have er' : EachIs (fun v d => ∃ as, Reads s'.heap v d as) us (ks.map encI) := each_map (R := fun v d => ∃ as, Reads s'.heap v d as) encI er
  have hd : ∀ d, d ∈ ks.map encI → A.units + d.depth < cLine := fun d hd => by
    obtain ⟨k, _, rfl⟩ := List.mem_map.mp hd
    exact Nat.lt_of_le_of_lt (Nat.add_le_add_left (depth_encI k) _) hu
  rcases h0 with h0 | h0
  · refine SortsAt.data er' hal (.inl fun d hd => ?_) hd
    obtain ⟨k, hk, rfl⟩ := List.mem_map.mp hd
    have := hn k hk
    cases k with
    | nil => exact absurd this.symm h0
    | cons x r => exact ⟨_, _, rfl⟩
  · refine sortsAt_small er' hal (fun d hd z => ?_) hd (by rw [er.length]; exact h0)
    obtain ⟨k, hk, rfl⟩ := List.mem_map.mp hd
    cases z
/-- sorted(x): x a list of such tuples, or a dict with such keys -/
def rSortT (K : PySem.W.Frag) : List V → Hp → VK → Prop := fun xs H Q => ∃ (a : Addr) (ks : List (List Int)) (n : Nat), xs = [.ref a] ∧ ((∃ vs, H a = some (.lst vs) ∧ TupsAt H vs ks) ∨ (∃ ws : List (List Key × V), Rd H a (.dT ws) ∧ ws.map (·.1) = ks.map fun k => k.map Sum.inl)) ∧
  (∀ k ∈ ks, k.length = n) ∧ (n ≠ 0 ∨ ks.length ≤ 1) ∧ ∀ p bs, H p = none → TupsAt H bs (sortI ks) → Q (.ref p) (upd H p (.lst bs))
theorem key_tups {k : List Int} : (k.map (Sum.inl : Int → Key)).map kV = k.map V.int := by rw [List.map_map]; rfl
theorem keys_RT : ∀ {ws : List (List Key × V)} {xs : List (List Key × Addr × Value)} {ks : List (List Int)},
    Paired (fun (p : List Key × V) (q : List Key × Addr × Value) => p.1 = q.1 ∧ H q.2.1 = some (.tup (p.1.map kV)) ∧ RelV p.2 q.2.2) ws xs → ws.map (·.1) = ks.map (fun k => k.map Sum.inl) → EachIs (RT H) (xs.map fun x => Value.ref x.2.1) ks
  | _, _, [], .nil, _ => .nil
  | _, _, _ :: _, .nil, e => by simp at e
  | _, _, [], .cons _ _, e => by simp at e
  | p :: ws, q :: xs, k :: ks, .cons r t, e => by
    rw [List.map_cons, List.map_cons] at e
    obtain ⟨e1, e2⟩ := List.cons.inj e
    refine .cons ⟨q.2.1, rfl, ?_⟩ (keys_RT t e2)
    rw [r.2.1, e1, key_tups]
/-- all the keys that a walk gathers -/
theorem gathered {prog : Program} {w : World} {es : Array DictEntry} {acc : Array Value} {xs : List (List Key × Addr × Value)} (he : es.toList = xs.map (entryOfKey (tupleKind (mixKind prog w))))
    (hz : acc.size = es.size) (it : ∀ (j : Nat) (v : Value), acc[j]? = some v → ∃ en : DictEntry, es[j]? = some en ∧ v = en.key) : acc.toList = xs.map fun x => Value.ref x.2.1 := by
  have l1 : es.size = xs.length := size_of_entries he
  apply List.ext_getElem?
  intro j
  rw [List.getElem?_map]
  cases hj : acc.toList[j]? with
  | none =>
    have h1 := List.getElem?_eq_none_iff.mp hj
    rw [Array.length_toList] at h1
    rw [List.getElem?_eq_none (by omega)]
    rfl
  | some v =>
    obtain ⟨en, hen, hv⟩ := it j v (by rw [← Array.getElem?_toList]; exact hj)
    have qe := entry_at he j
    rw [hen] at qe
    cases hb : xs[j]? with
    | none =>
      rw [hb] at qe
      exact nomatch (show some en = none from qe)
    | some b =>
      rw [hb] at qe
      have e2 : en = entryOfKey (tupleKind (mixKind prog w)) b := Option.some.inj qe
      rw [hv, e2]
      rfl
theorem cr_sortedD (hcalm : X.calm = true) (hu : X.A.units + 64 < cLine) : CallR X (.builtin "sorted") (rSortT X.K) := by
  intro pins s σ H xs us Q I r h
  obtain ⟨a, ks, n, ex, src, hn, h0, q⟩ := h
  subst ex
  obtain ⟨u, eu, rx⟩ := vals1 r
  subst eu
  cases rx
  -- the sort's own part, behind a copy of the values at h'
  have tail : ∀ (h' : Heap) (tk : Nat) (ts : List Value), (∀ b o, s.heap.get? b = some o → h'.get? b = some o) → EachIs (RT H) ts ks → ks.length ≤ sizeLine →
      wpAny (model X.prog X.w) X.A.in1 (newList ts >>= fun l => holding [l] (call (.builtin "list.sort") [l] []) >>= fun _ => ret l) (fun f s' => ∃ v, f = PySem.Fin.done (.ret v) ∧ EP X pins σ Q v s') X.xe { s with heap := h', toks := tk } := by
    intro h' tk ts hk e hz
    have I1 : Inv X pins σ H { s with heap := h', toks := tk } := I.kept (t' := tk) hk
    have hl : ts.length = ks.length := e.length
    refine wpAny_bind (wpAny_newList ?_ (by rw [hl]; exact hz))
    have hoL : (h'.push (seqObj "list" ts.toArray 0)).get? h'.objs.size = some (seqObj "list" ts.toArray 0) := Heap.get?_push_size _ rfl
    show wpAny _ _ _ _ _ { s with heap := h'.push (seqObj "list" ts.toArray 0), toks := tk }
    have keep : ∀ b o, h'.get? b = some o → (sortingHeap (h'.push (seqObj "list" ts.toArray 0)) h'.objs.size ts).get? b = some o := fun b o eb =>
      sortingHeap_old (Nat.ne_of_lt (Heap.lt_size eb)) (Heap.get?_push_of_some _ eb)
    have er : EachIs (fun v k => ∃ as, Reads (sortingHeap (h'.push (seqObj "list" ts.toArray 0)) h'.objs.size ts) v (encI k) as) ts ks :=
      (reads_RT I1 e).mono fun _ _ ⟨as, r⟩ => ⟨as, PyProof.Rows.Reads.keeps keep r⟩
    have hal : AllAlike (ks.map encI) := AllAlike.of alike_encI
    have S : SortsAt X.prog X.w X.A.in1.in1 { s with heap := sortingHeap (h'.push (seqObj "list" ts.toArray 0)) h'.objs.size ts, toks := tk } (dataKind (sortingHeap (h'.push (seqObj "list" ts.toArray 0)) h'.objs.size ts) (ks.map encI)) ts :=
      sortable_of (s' := { s with heap := sortingHeap (h'.push (seqObj "list" ts.toArray 0)) h'.objs.size ts, toks := tk }) er (by show X.A.units + 1 + 1 + 1 < cLine; omega) hn h0
    refine wpAny_bind (wpAny_holding (wpAny_call_entry PyProof.Rows.slot_list_sort ⟨_, hoL, rfl⟩ PyProof.Rows.entry_list_sort
      (list_sort_vals (s := { s with heap := h'.push (seqObj "list" ts.toArray 0), toks := tk }) hoL S (by rw [hl]; exact hz) ⟨_, rfl, ?_⟩) (PyProof.Rows.args_list_sort _)))
    have ev := sortVals_data (R := RT H) false e er hal
    obtain ⟨e', he'⟩ := PyProof.Rows.sortedHeap_at (vs := ts) (out := (sortVals (dataKind (sortingHeap (h'.push (seqObj "list" ts.toArray 0)) h'.objs.size ts) (ks.map encI)) false ts ts).toArray) hoL
    obtain ⟨bs, tb, vb⟩ := RT_tups ev
    have lb : bs.length ≤ sizeLine := by
      have h1 : bs.length = (ks.mergeSort (dataLe false encI)).length := Paired.length tb
      rw [h1, List.length_mergeSort]
      exact hz
    refine wpAny_pure ⟨_, rfl, .ref h'.objs.size, upd H h'.objs.size (.lst bs), I1.laid (t' := tk) (fun b u eb => ?_) (Nat.le_refl _)
      (show ObjOk X.prog X.w _ _ _ (.lst bs) from ⟨lb, _, e', vb, he'⟩), rfl, q _ bs (I1.hok.fresh (Nat.le_refl _)) tb⟩
    have hb : b < h'.objs.size := Heap.lt_size eb
    rw [PyProof.Rows.sortedHeap_old (Nat.ne_of_lt hb) (by rw [size_push']; exact Nat.lt_succ_of_lt hb)]
    exact Heap.get?_push_of_some _ eb
  refine Calls.call_function_entry PyProof.Rows.kind_sorted PyProof.Rows.plain_sorted PyProof.Rows.entry_sorted (PyProof.Rows.args_sorted1 _) ?_
  unfold Builtin.«sorted»
  refine wpAny_bind (m := checkCount "sorted" 1 1 _) (wpAny_pure ?_)
  rcases src with ⟨vs, hv, tv⟩ | ⟨ws, hd, hks⟩
  · obtain ⟨its, rv, pl, hz⟩ := I.list (SqL.of hv : SqL X.K H a vs)
    have lk : vs.length = ks.length := Paired.length tv
    refine wpAny_bind (collect_list pl.isList ?_ (by rw [← rv.length]; exact hz))
    exact tail _ s.toks its (fun b o eb => by
      rw [Heap.get?_update_ne _ _ _ _ (Nat.ne_of_lt (Heap.lt_size eb))]
      exact Heap.get?_push_of_some _ eb) (each_RT tv rv) (by omega)
  · obtain ⟨z, hs, xs, pr, o, es, ep, ho, hx, hdt, he, hnd⟩ := (show ObjOk X.prog X.w H s.heap a (.dT ws) from hd.ok I.hok)
    have l1 : es.size = xs.length := size_of_entries he
    have l2 : ws.length = xs.length := Paired.length pr
    have l3 : ws.length = ks.length := by
      have := congrArg List.length hks
      rw [List.length_map, List.length_map] at this
      exact this
    refine wpAny_bind (PySem.W.kdu_collect (A := X.A.in1) (kdl_raw hs hx hdt) (I.ok.hd hcalm) ho (by omega) fun h' tk acc hk it => ?_)
    refine tail h' tk acc.toList hk ?_ (by omega)
    rw [gathered he it.1 it.2]
    exact keys_RT pr hks
end
end Nw

/-! Nw3: tuple(dict), repr of data, setdefault and a display with tuple keys. -/
namespace Nw
open PySem PySem.Spec PyProof.Rows L2 PySem.W
open AutoSeq1 (wpAny_loadPart')

section
variable {prog : Program} {w : World}
theorem tuple_new_raw {d : Addr} {o : Obj} {es : Array DictEntry} {ep : Nat} (lo : (d == sysModules) = false) (hx : o.ExactDict) (hdat : o.data = .dict es ep) (hsz : es.size ≤ sizeLine) :
    MeetsIn prog w (Builtin.«tuple.__new__» ⟨[.type "tuple", .ref d], []⟩)
      (fun A R s => A.handled = none ∧ s.heap.get? d = some o ∧ ∀ (h' : Heap) (tk : Nat) (acc : Array Value), (∀ b o', s.heap.get? b = some o' → h'.get? b = some o') →
        ItemsOf (fun i v => ∃ en : DictEntry, es[i]? = some en ∧ v = en.key) acc es.size → R (.ok (.ret (.ref h'.objs.size))) { s with heap := h'.push { cls := .type "tuple", data := .seq acc }, toks := tk }) :=
  .of_wp fun A R s h => by
    obtain ⟨hh, hd, h⟩ := h
    obtain ⟨hp, g, dr, tk, os⟩ := s
    have hsub := sub_tuple_self
    have hinit := init_tuple_lookup
    have hmh := madeHere_tuple
    have hT : Shared.TypeIs ⟨hp, g, dr, tk, os⟩ (.ref d) "dict" := ⟨o, hd, hx.1⟩
    have hd' : hp.get? d = some o := hd
    have hh1 : A.in1.handled = none := hh
    wp_walk using wpAny_loadPart' hd, wpAny_typeOf hT, PySem.W.kdu_collect (kdl_raw lo hx hdat) hh1 hd hsz
    intro h' tk' acc hk hacc
    show wpAny _ _ (Builtin.Tuple.tupleExact acc.toList.toArray >>= fun v => ret v) _ _ _
    unfold Builtin.Tuple.tupleExact
    refine wpAny_bind (wpAny_newObj_type ?_ (by show acc.toList.toArray.size ≤ sizeLine; simp only [Array.toArray_toList]; rw [hacc.1]; exact hsz))
    refine wpAny_pure ⟨_, rfl, ?_⟩
    have e : acc.toList.toArray = acc := by simp
    rw [e]
    exact h h' tk' acc hk hacc
end
section
variable {X : Cx} {pins : List (Addr × Obj)} {σ : L2.St} {H : Hp} {s : Shared}
/-- tuple(d) of a dict whose keys are tuples of ints -/
theorem call_tuple_dT (hcalm : X.calm = true) : CallR X (.type "tuple") (fun xs H Q => ∃ (d : Addr) (ws : List (List Key × V)) (ks : List (List Int)), xs = [.ref d] ∧ Rd H d (.dT ws) ∧ ws.map (·.1) = ks.map (fun k => k.map Sum.inl) ∧
    ∀ p bs, H p = none → TupsAt H bs ks → Q (.ref p) (upd H p (.tup bs))) := by
  intro pins s σ H xs us Q I r h
  obtain ⟨d, ws, ks, ex, hd, hks, q⟩ := h
  subst ex
  obtain ⟨u, eu, rx⟩ := vals1 r
  subst eu
  cases rx
  obtain ⟨z, hs, ys, pr, o, es, ep, ho, hx, hdt, he, hnd⟩ := (show ObjOk X.prog X.w H s.heap d (.dT ws) from hd.ok I.hok)
  have l1 : es.size = ys.length := size_of_entries he
  have l2 : ws.length = ys.length := Paired.length pr
  refine callType_newIn F.called_tuple (by decide) (F.typeCall_tuple_1 _) (F.newCall_tuple_1 _) (fun obj => F.args_object_init_2 obj _) F.entry_tuple_new
    (tuple_new_raw hs hx hdt (by omega)) ⟨I.ok.hd hcalm, ho, fun h' tk acc hk it => ⟨⟨_, Heap.get?_push_size _ rfl, rfl⟩, ?_⟩⟩
  have I1 : Inv X pins σ H { s with heap := h', toks := tk } := I.kept (t' := tk) hk
  have er : EachIs (RT H) acc.toList ks := by
    rw [gathered he it.1 it.2]
    exact keys_RT pr hks
  obtain ⟨bs, tb, vb⟩ := RT_tups er
  have lb : bs.length = ks.length := Paired.length tb
  have lk : ws.length = ks.length := by
    have := congrArg List.length hks
    rw [List.length_map, List.length_map] at this
    exact this
  have new : ObjOk X.prog X.w (upd H h'.objs.size (.tup bs)) (h'.push { cls := .type "tuple", data := .seq acc }) h'.objs.size (.tup bs) :=
    ⟨by omega, acc.toList, vb, ⟨_, Heap.get?_push_size _ rfl, rfl, _, by rw [Array.toArray_toList]⟩⟩
  exact ⟨.ref h'.objs.size, _, I1.laid (t' := tk) (fun b o' e => Heap.get?_push_of_some _ e) (Nat.le_refl _) new, rfl, q _ bs (I1.hok.fresh (Nat.le_refl _)) tb⟩
/-- repr of data, where no text of a container is being made -/
theorem call_reprD (hg : X.A.guards = some []) (hu : X.A.units + 64 < cLine) : CallR X (.builtin "repr") (fun xs H Q => ∃ (a : Addr) (d : PyData), xs = [.ref a] ∧ Dp X.K H (.ref a) d ∧ d.showable = true ∧ d.hasDict = false ∧ d.depth ≤ 60 ∧ d.shown.length ≤ sizeLine ∧ Q (.str d.shown) H) := by
  intro pins s σ H xs us Q I r h
  obtain ⟨a, d, ex, hd, hs, hn, hdp, hz, q⟩ := h
  subst ex
  obtain ⟨u, eu, rx⟩ := vals1 r
  subst eu
  cases rx
  obtain ⟨as, rd⟩ := Dp.reads I d (.ref a) (.ref a) hd rfl
  exact repr_of_reads' rd hs (PyData.noDict_hsm hn) hg (by omega) (fun _ _ e => e) (fun h' t tk hk => ⟨.str d.shown, H, I.kept (t' := tk) hk, ⟨_, rfl⟩, q⟩) hz
end
end Nw

/-! Nw4: setdefault and a display of one pair, with tuple keys. -/
namespace Nw
open PySem PySem.Spec PyProof.Rows L2

section
variable {X : Cx} {pins : List (Addr × Obj)} {σ : L2.St} {H : Hp} {s : Shared}
/-- a tuple-keyed dict's object behind a store -/
theorem stored_ok {d b : Addr} {kvs : List (List Key × V)} {k : List Key} {v : V} {r : Value} {xs : List (List Key × Addr × Value)} {h' : Heap} {t' : Nat} (I : Inv X pins σ H s) (e : H d = some (.dT kvs)) (eb : H b = some (.tup (k.map kV))) (rv : RelV v r) (hl : kvs.length < sizeLine)
    (hs0 : (d == sysModules) = false) (rel : KT H kvs xs) (dd : h'.DictOfH (tupleKind (mixKind X.prog X.w)) d (storedH xs k b r)) (sb : Heap.SameBut d s.heap h') : Inv X pins σ (upd H d (.dT (putK kvs k v))) { s with heap := h', toks := t' } := by
  have hz : (putK kvs k v).length ≤ sizeLine := by
    have h1 := length_putK kvs k v
    omega
  obtain ⟨o, es, ep, ho, h2, h3, h4, _, h5⟩ := dd
  have keep : ∀ c ys, H c = some (.tup ys) → upd H d (.dT (putK kvs k v)) c = some (.tup ys) := fun c ys ec => by
    rw [upd_ne (ne_of ec e (fun z => nomatch z))]
    exact ec
  exact d_write I (by rw [e]; exact True.intro) sb ⟨o, ho⟩ ⟨hz, hs0, _, (rel.put k eb rv).keeps keep, o, es, ep, ho, h2, h3, h4, h5⟩
/-- d.setdefault(key, v), the key a tuple -/
def rSetdT : V → List V → Hp → VK → Prop := fun x vs H Q => ∃ (d b : Addr) (kvs : List (List Key × V)) (k : List Key) (v : V), x = .ref d ∧ vs = [.ref b, v] ∧ H d = some (.dT kvs) ∧ H b = some (.tup (k.map kV)) ∧ kvs.length < sizeLine ∧
  (∀ u, valV kvs k = some u → Q u H) ∧ (valV kvs k = none → Q v (upd H d (.dT (putK kvs k v))))
theorem mt_setdefT (hu : X.A.units + 1 < cLine) : MtR X "dict.setdefault" rSetdT := by
  intro pins s σ H x xs v us Q I rx rxs h
  obtain ⟨d, b, kvs, k, y, rfl, rfl, hd, hb, hl, q1, q2⟩ := h
  cases rx
  obtain ⟨u1, u2, rfl, r1, r2⟩ := Vals.two rxs
  cases r1
  obtain ⟨z, hs, ys, rel, dd⟩ := dt_of I.hok hd
  have hz : ys.length ≤ sizeLine := by rw [← Paired.length rel]; exact z
  refine call_setdefault_heap (hsz := hz) (tupleKind_room_in1 hu) (key_of I.hok hb) hs dd (fun p hp => ?_) fun hn h' dd' sb => ?_
  · have hr := rel.val k
    rw [hp] at hr
    cases hv : valV kvs k with
    | none => rw [hv] at hr; exact hr.elim
    | some u =>
      rw [hv] at hr
      exact ⟨u, H, I.tok _, hr, q1 u hv⟩
  · have hv : valV kvs k = none := by
      have hr := (rel.val k).isSome_eq
      rw [hn] at hr
      cases hv : valV kvs k with
      | none => rfl
      | some u => rw [hv] at hr; cases hr
    exact ⟨y, _, stored_ok I hd hb r2 hl hs rel dd' sb, r2, q2 hv⟩
/-- {key: v}, the key a tuple; the new dict stands empty while the pair is made -/
def tDispT (tk tv : TE) : TE := fun σ H Q => ∀ p, H p = none → tk σ (upd H p (.dT [])) fun x H1 => tv σ H1 fun y H2 => ∃ (b : Addr) (k : List Key), x = .ref b ∧ H2 p = some (.dT []) ∧ H2 b = some (.tup (k.map kV)) ∧ Q (.ref p) (upd H2 p (.dT [(k, y)]))
theorem pe_dispT {pos : Pos} {k v : Expr} {tk tv : TE} (hu : X.A.units + 1 < cLine) (hk : PE X k tk) (hv : PE X v tv) : PE X (.Dict [some k] [v] pos) (tDispT tk tv) := by
  refine ⟨fun pins s σ H Q I q => ?_⟩
  have hn := I.hok.fresh (Nat.le_refl s.heap.objs.size)
  have I1 := I.laid (a := s.heap.objs.size) (o := .dT []) (h' := s.heap.push { cls := .type "dict", data := .dict #[] }) (t' := s.toks) (fun _ _ q => Heap.get?_push_of_some _ q) (Nat.le_refl _) (dt_empty s.heap I.big)
  have run : wpAny (model X.prog X.w) X.A (evalPairs (pairTrees [some k] [v] X.env pos)) (fun vs s' => ∃ (b : Addr) (ky : List Key) (y : V) (u : Value) (H' : Hp), vs = [(.ref b, u)] ∧ Inv X pins σ H' s' ∧ RelV y u ∧ H' s.heap.objs.size = some (.dT []) ∧ H' b = some (.tup (ky.map kV)) ∧ Q (.ref s.heap.objs.size) (upd H' s.heap.objs.size (.dT [(ky, y)]))) X.xe { s with heap := s.heap.push { cls := .type "dict", data := .dict #[] } } := by
    refine pairTrees_cons_walk (thn (hk.run pins _ σ _ _ I1 (q _ hn)) fun u s1 ⟨x, H1, I1, rx, q1⟩ => thn (hv.run pins s1 σ H1 _ I1 q1) fun w2 s2 ⟨y, H2, I2, ry, b, ky, e1, e2, e3, q2⟩ => ?_)
    subst e1
    cases rx
    exact pairTrees_nil_walk ⟨b, ky, y, w2, H2, rfl, I2, ry, e2, e3, q2⟩
  have h1 : pairTrees [some k] [v] X.env pos ≠ [] := fun z => nomatch z
  rw [arm_eval_Dict, show (evalEachOpt [some k] X.env).zip ((evalEach [v] X.env).map fun v => do let x ← v; standAt pos; pure x) = (pairTrees [some k] [v] X.env pos).map fun p => (some p.1, p.2) from rfl, dictDisplay_pairs _ h1 (by show 1 < 17; decide)]
  refine wpAny_bind (wpAny_standAt (wpAny_bind (wpAny_subDictH (knd := tupleKind (mixKind X.prog X.w)) (Q := fun d s' => wpAny (model X.prog X.w) X.A (pure (Value.ref d)) (EP X pins σ Q) X.xe s') (show X.A.units < cLine by omega) (by show 1 ≤ 15; decide) (thn run fun vs s2 ⟨b, ky, y, u, H2, e1, I2, ry, e2, e3, q2⟩ => ?_))))
  subst e1
  obtain ⟨z, hd, ys, rel, dd⟩ := dt_of I2.hok e2
  have ey : ys = [] := by
    cases rel
    rfl
  subst ey
  exact ⟨[(ky, b, u)], ⟨rfl, rfl, key_of I2.hok e3, trivial⟩, dd, fun h' tk dd' sb => wpAny_pure ⟨.ref s.heap.objs.size, _, stored_ok (k := ky) I2 e2 e3 ry (by decide) hd rel dd' sb, rfl, q2⟩⟩
end
end Nw

/-! Nw5: enumerate of a tuple; zip of a tuple and a list. -/
namespace Nw
open PySem PySem.Spec PyProof.Rows L2

/-- the tuple at a, each item in a new pair with its place -/
def IteT (K : PySem.W.Frag) (a : Addr) : It :=
  ⟨fun i H => ∃ (xs : List V) (x : V), SqT K H a xs ∧ xs[i]? = some x, fun i H v H' => ∃ T x, v = .ref T ∧ H T = none ∧ H' = upd H T (.tup [.int (i : Nat), x]) ∧ ∀ xs, SqT K H a xs → xs[i]? = some x, fun i H => ∃ xs : List V, SqT K H a xs ∧ xs.length = i⟩
theorem turn_enumT {P : Program} {w : World} {K : PySem.W.Frag} {elts : List Expr} {kk : Nat} {tpos : Pos} (a e it : Addr) (hei : e ≠ it) (hea : e ≠ a) (hai : a ≠ it) :
    Turn P w K (.Tuple elts kk tpos) (IteT K a) [e, it] e (fun i h => (∃ old, IsEnum h e it ((i : Nat) : Int) old) ∧ h.IsTupleIter it a i) where
  mem := by simp
  obj := fun i h st b hb => by
    obtain ⟨⟨old, he⟩, ⟨o, ho, hc, hd⟩⟩ := st
    have e' : b = e ∨ b = it := by simpa using hb
    rcases e' with z | z
    · rw [z]; exact ⟨_, he, fun v q => nomatch q⟩
    · rw [z]; exact ⟨o, ho, fun v q => by rw [hd] at q; cases q⟩
  keep := fun i h h' st k => let ⟨⟨old, he⟩, hi⟩ := st; ⟨⟨old, k e (by simp) _ he⟩, hi.at fun o q => k it (by simp) o q⟩
  item := by
    intro X hP hw hK hc i pins s σ H E I hf st hg
    subst hP hw hK
    obtain ⟨⟨old, he⟩, hit⟩ := st
    obtain ⟨xs, x, hq, hx⟩ := hg
    obtain ⟨its, rv, p, hz⟩ := I.tuple hq
    obtain ⟨u, hu, ru⟩ := rv.get hx
    have hel : e < s.heap.objs.size := Heap.lt_size he
    have hil : it < s.heap.objs.size := by obtain ⟨_, q, _⟩ := hit; exact Heap.lt_size q
    have hlt : i < its.toArray.size := by
      have hi := (List.getElem?_eq_some_iff.mp hu).1
      simpa using hi
    have hh : X.A.in1.handled = none := I.ok.hd hc
    refine wpAny_pyNext_enum_itemC (c := ((i : Nat) : Int)) (Draws.tuple hh it a hai its.toArray) he ⟨hit, p⟩ hlt hei (by simp [hei, hea]) fun y h' tk hP ho hst' hT hsz hk => ?_
    have ey : y = u := by
      have h1 : its.toArray[i]? = some u := by simpa using hu
      exact Option.some.inj (hP.symm.trans h1)
    subst ey
    refine ⟨_, rfl, wpAny_letOwnedTupleGo_enum (s := { s with heap := h', toks := tk + 1 }) ho fun h'' he' sb => ?_⟩
    have hT2 : h''.get? s.heap.objs.size = some { cls := .type "tuple", data := .seq #[.int i tk, y] } := (sb.2 _ (Nat.ne_of_gt hel)).trans hT
    have new : ObjOk X.prog X.w (upd H s.heap.objs.size (.tup [.int (i : Nat), x])) h'' s.heap.objs.size (.tup [.int (i : Nat), x]) :=
      ⟨by show 2 ≤ sizeLine; decide, [.int i tk, y], .cons ⟨_, rfl⟩ (.cons ru .nil), ⟨_, hT2, rfl, _, rfl⟩⟩
    have I1 : Inv X pins σ (upd H s.heap.objs.size (.tup [.int (i : Nat), x])) { s with heap := h'', toks := tk + 1 } :=
      I.turnedNew (ch := [e, it]) (fun b ob hb q => (sb.2 b (fun z => hb (by simp [z]))).trans (hk b ob (fun z => hb (by simp [z])) (fun z => hb (by simp [z])) q)) hf (Nat.le_refl _) new
    refine ⟨.ref s.heap.objs.size, _, I1, rfl, ⟨_, x, rfl, I.hok.fresh (Nat.le_refl _), rfl, fun ys hy => by rw [I.tuple_inj hy hq]; exact hx⟩, ⟨⟨y, ?_⟩, hst'.1.at fun o q => (sb.2 it (Ne.symm hei)).trans q⟩, fun b hb => ?_⟩
    · have e1 : ((i + 1 : Nat) : Int) = (i : Int) + 1 := by omega
      rw [e1]; exact he'
    · have hb' : b < s.heap.objs.size := by
        have e' : b = e ∨ b = it := by simpa using hb
        rcases e' with z | z
        · rw [z]; exact hel
        · rw [z]; exact hil
      rw [upd_ne (Nat.ne_of_lt hb')]
      exact (hf b hb).1
  done := by
    intro X hP hw hK hc i pins s σ H E I hf st hg
    subst hP hw hK
    obtain ⟨⟨old, he⟩, hit⟩ := st
    obtain ⟨xs, hq, hx⟩ := hg
    obtain ⟨its, rv, p, hz⟩ := I.tuple hq
    obtain ⟨f0, f1, f2, f3, f4, f5⟩ := hf it (by simp)
    have hl := rv.length
    have hh : X.A.in1.handled = none := I.ok.hd hc
    have en : its.toArray.size = i := by simp; omega
    have D := Draws.tuple (prog := X.prog) (w := X.w) hh it a hai its.toArray
    rw [en] at D
    exact wpAny_pyNext_enum_endD D he ⟨hit, p⟩ fun h' eb => ⟨rfl, I.turned (t' := s.toks) (fun b o hb q => eb b o hb q) f0 f1 f3 f4 f5⟩
  self := fun A i s Q E st h => let ⟨⟨_, he⟩, _⟩ := st; wpAny_pyIter_enum he h

section
variable {prog : Program} {w : World} {A : Around} {E : Value → Shared → Prop} {s : Shared}
set_option maxHeartbeats 4000000 in
theorem meets_enumerate_new1 {v : Value} {o : Obj} {H : Heap → Prop} (B : Begins v o H) :
    Meets (Builtin.«enumerate.__new__» ⟨[.type "enumerate", v], []⟩) (fun _ R s => H s.heap ∧
      R (.ok (.ret (.ref (s.heap.push o).objs.size))) { s with heap := (s.heap.push o).push { cls := .type "enumerate", data := .fields #[.none, .bool false, .ref s.heap.objs.size, rawInt 0, .none, .none] } }) :=
  .of_wp fun prog w A R s h => by
    obtain ⟨hp, g, d, tk, os⟩ := s; obtain ⟨h1, h⟩ := h
    have hsub := sub_enumerate
    have q1 : ∀ {A' : Around} {E : Value → Shared → Prop} {Q : Value → Shared → Prop}, Q (.ref hp.objs.size) ⟨hp.push o, g, d, tk, os⟩ → wpAny (model prog w) A' (pyIter v) Q E ⟨hp, g, d, tk, os⟩ :=
      fun q => B.iter prog w _ _ ⟨hp, g, d, tk, os⟩ _ h1 q
    wp_walk using q1
    first
    | exact ⟨_, rfl, h⟩
    | (refine wpAny_stack_any fun st => wpAny_pure ?_
       split
       · rename_i c _ _ _ _ _
         cases (c == Value.type "enumerate")
         · wp_walk using q1
           exact ⟨_, rfl, h⟩
         · wp_walk using q1
           exact ⟨_, rfl, h⟩
       · wp_walk using q1
         exact ⟨_, rfl, h⟩)
theorem enum_begins1 {v : Value} {o : Obj} {H : Heap → Prop} {Q : Value → Shared → Prop} (B : Begins v o H) (h1 : H s.heap)
    (h : ∀ h', IsEnum h' (s.heap.objs.size + 1) s.heap.objs.size 0 .none → h'.get? s.heap.objs.size = some o → h'.objs.size = s.heap.objs.size + 2 →
      (∀ b o, s.heap.get? b = some o → h'.get? b = some o) → Q (.ref (s.heap.objs.size + 1)) { s with heap := h' }) :
    wpAny (model prog w) A (call (.type "enumerate") [v]) Q E s := by
  refine callType_new F.called_enumerate (by decide) (F.typeCall_enumerate_1 _) (F.newCall_enumerate_1 _) (fun obj => F.args_object_init_2 obj _) F.entry_enumerate_new
    (meets_enumerate_new1 B) ⟨h1, ?_⟩
  have hz : (s.heap.push o).objs.size = s.heap.objs.size + 1 := Heap.size_push ..
  show _ ∧ _
  rw [hz]
  have he : IsEnum ((s.heap.push o).push { cls := .type "enumerate", data := .fields #[.none, .bool false, .ref s.heap.objs.size, rawInt 0, .none, .none] }) (s.heap.objs.size + 1) s.heap.objs.size 0 .none := by
    have := Heap.get?_push_size (s.heap.push o) (o := { cls := .type "enumerate", data := .fields #[.none, .bool false, .ref s.heap.objs.size, rawInt 0, .none, .none] }) rfl
    rw [hz] at this; exact this
  refine ⟨⟨_, he, rfl⟩, h _ he (Heap.get?_push_of_some _ (Heap.get?_push_size _ B.free)) (by rw [Heap.size_push, hz]) fun b o x => Heap.get?_push_of_some _ (Heap.get?_push_of_some _ x)⟩
end
def iEnumT (K : PySem.W.Frag) (ta : TA) : TI := fun σ H R => ta σ H fun vs H1 => ∃ a xs, vs = [.ref a] ∧ SqT K H1 a xs ∧ R (IteT K a) H1
theorem pi_enumT {X : Cx} {e : Expr} {ta : TA} {p pos tpos : Pos} {elts : List Expr} {kk : Nat} (hg : Gl X "enumerate") (hm : X.mg "enumerate" = none) (ha : PA X [e] ta) (hs : starEach [e] X.env = [(false, eval e X.env)] := by rfl) :
    PI X (.Tuple elts kk tpos) (.Call (.Name "enumerate" p) [e] [] pos) (iEnumT X.K ta) := by
  refine ⟨fun pins s σ H R I h => ?_⟩
  refine Call_ (ld_blt I hg hm boot_enumerate (PyProof.Rows.callWith_type1 (thn (ha.run pos pins s σ H _ I h) fun us s1 ⟨vs, H1, I1, r1, q1⟩ => ?_) hs rfl))
  obtain ⟨a, xs, ex, hq, q⟩ := q1
  subst ex
  cases r1 with
  | cons r rr =>
    cases rr
    cases r
    obtain ⟨its, rv, p', hz⟩ := I1.tuple hq
    have hal : a < s1.heap.objs.size := by obtain ⟨o, ho, _⟩ := id p'; exact Heap.lt_size ho
    refine enum_begins1 (begins_tuple a its.toArray) p' fun h' he hit hsz hk => wpAny_pyIter_enum he ?_
    have I2 : Inv X pins σ H1 { s1 with heap := h' } := I1.kept (t' := s1.toks) hk
    refine ⟨s1.heap.objs.size + 1, [s1.heap.objs.size + 1, s1.heap.objs.size], _, _, H1, rfl, I2, turn_enumT a (s1.heap.objs.size + 1) s1.heap.objs.size (Nat.succ_ne_self _) (Nat.ne_of_gt (Nat.lt_succ_of_lt hal)) (Nat.ne_of_lt hal), ⟨⟨.none, he⟩, ⟨_, hit, rfl, rfl⟩⟩, fun b hb => ?_, q⟩
    have e' : b = s1.heap.objs.size + 1 ∨ b = s1.heap.objs.size := by simpa using hb
    have hle : s1.heap.objs.size ≤ b := by
      rcases e' with z | z
      · rw [z]; exact Nat.le_add_right _ _
      · rw [z]; exact Nat.le_refl _
    exact I1.fpOk hle (I1.hok.fresh hle)

/-! ### zip of a tuple and a list of one length -/
def ItzTL (K : PySem.W.Frag) (a b : Addr) : It :=
  ⟨fun i H => ∃ (xs ys : List V) (x y : V), SqT K H a xs ∧ SqL K H b ys ∧ xs[i]? = some x ∧ ys[i]? = some y,
    fun i H v H' => ∃ T x y, v = .ref T ∧ H T = none ∧ H' = upd H T (.tup [x, y]) ∧ (∀ xs, SqT K H a xs → xs[i]? = some x) ∧ ∀ ys, SqL K H b ys → ys[i]? = some y,
    fun i H => ∃ xs ys : List V, SqT K H a xs ∧ SqL K H b ys ∧ xs.length = i ∧ ys.length = i⟩
theorem turn_zipTL {P : Program} {w : World} {K : PySem.W.Frag} {elts : List Expr} {kk : Nat} {tpos : Pos} {a b N : Addr} (ha : a < N) (hb : b < N) :
    Turn P w K (.Tuple elts kk tpos) (ItzTL K a b) [N + 4, N + 2, N + 3, N, N + 1] (N + 4) (fun i h => IsZip h (N + 4) (N + 2) (N + 3) .none ∧ IsTupOf2 h (N + 2) (.ref N) (.ref (N + 1)) ∧ (∃ x y, IsTupOf2 h (N + 3) x y) ∧ h.IsTupleIter N a i ∧ h.IsListIter (N + 1) b i) where
  mem := by simp
  obj := fun i h st c hc => by
    obtain ⟨hz, hTI, ⟨x, y, hTO⟩, ⟨o1, e1, _, d1⟩, ⟨o2, e2, _, d2⟩⟩ := st
    have e' : c = N + 4 ∨ c = N + 2 ∨ c = N + 3 ∨ c = N ∨ c = N + 1 := by simpa using hc
    rcases e' with q | q | q | q | q
    · rw [q]; exact ⟨_, hz, fun v q => nomatch q⟩
    · rw [q]; exact ⟨_, hTI, fun v q => nomatch q⟩
    · rw [q]; exact ⟨_, hTO, fun v q => nomatch q⟩
    · rw [q]; exact ⟨o1, e1, fun v q => by rw [d1] at q; cases q⟩
    · rw [q]; exact ⟨o2, e2, fun v q => by rw [d2] at q; cases q⟩
  keep := fun i h h' st k => by
    obtain ⟨hz, hTI, ⟨x, y, hTO⟩, h1, h2⟩ := st
    exact ⟨k _ (by simp) _ hz, k _ (by simp) _ hTI, ⟨x, y, k _ (by simp) _ hTO⟩, h1.at fun o q => k _ (by simp) o q, h2.at fun o q => k _ (by simp) o q⟩
  item := by
    intro X hP hw hK hc i pins s σ H E I hf st hg
    subst hP hw hK
    obtain ⟨hz, hTI, ⟨x0, y0, hTO⟩, h1, h2⟩ := st
    obtain ⟨xs, ys, x, y, hqx, hqy, hx, hy⟩ := hg
    obtain ⟨its, rv, p, _⟩ := I.tuple hqx
    obtain ⟨its2, rv2, p2, _⟩ := I.list hqy
    obtain ⟨u, hu, ru⟩ := rv.get hx
    obtain ⟨u2, hu2, ru2⟩ := rv2.get hy
    have hzl : N + 4 < s.heap.objs.size := Heap.lt_size hz
    have hh : X.A.in1.handled = none := I.ok.hd hc
    have lt1 : i < its.toArray.size := by
      have hi := (List.getElem?_eq_some_iff.mp hu).1
      simpa using hi
    have lt2 : i < its2.toArray.size := by
      have hi := (List.getElem?_eq_some_iff.mp hu2).1
      simpa using hi
    have S : ZipSep2 (N + 4) (N + 2) (N + 3) N (N + 1) [N, a] [N + 1, b] := zip_sep2 (by simpa using ha) (by simpa using hb)
    refine wpAny_pyNext_zipD2_item S (Draws.tuple hh N a (Nat.ne_of_lt ha) its.toArray) (Draws.list hh (N + 1) b (Nat.ne_of_lt (Nat.lt_succ_of_lt hb)) its2.toArray) hz hTI hTO ⟨h1, p⟩ ⟨h2, p2.isList⟩ lt1 lt2 fun v1 v2 h' tk hP1 hP2 z' TO' h1' h2' hT hsz hk => ?_
    have e1 : v1 = u := by
      have h1 : its.toArray[i]? = some u := by simpa using hu
      exact Option.some.inj (hP1.symm.trans h1)
    have e2 : v2 = u2 := by
      have h1 : its2.toArray[i]? = some u2 := by simpa using hu2
      exact Option.some.inj (hP2.symm.trans h1)
    subst e1 e2
    refine ⟨_, rfl, wpAny_letOwnedTupleGo_zip (s := { s with heap := h', toks := tk }) z' fun h'' z'' sb => ?_⟩
    have hT2 : h''.get? s.heap.objs.size = some { cls := .type "tuple", data := .seq #[v1, v2] } := (sb.2 _ (Nat.ne_of_gt hzl)).trans hT
    have new : ObjOk X.prog X.w (upd H s.heap.objs.size (.tup [x, y])) h'' s.heap.objs.size (.tup [x, y]) :=
      ⟨by show 2 ≤ sizeLine; decide, [v1, v2], .cons ru (.cons ru2 .nil), ⟨_, hT2, rfl, _, rfl⟩⟩
    have I1 : Inv X pins σ (upd H s.heap.objs.size (.tup [x, y])) { s with heap := h'', toks := tk } :=
      I.turnedNew (t' := tk) (ch := [N + 4, N + 2, N + 3, N, N + 1]) (fun c o hb q => (sb.2 c (fun q' => hb (by simp [q']))).trans (hk c o (fun q' => hb (by simp [q'])) (fun q' => hb (by simp [q'])) (fun q' => hb (by simp [q'])) (fun q' => hb (by simp [q'])) q)) hf (Nat.le_refl _) new
    refine ⟨.ref s.heap.objs.size, _, I1, rfl, ⟨_, x, y, rfl, I.hok.fresh (Nat.le_refl _), rfl, fun l hl => by rw [I.tuple_inj hl hqx]; exact hx, fun l hl => by rw [I.list_inj hl hqy]; exact hy⟩, ⟨z'', ?_, ⟨v1, v2, ?_⟩, ?_, ?_⟩, fun c hcm => ?_⟩
    · exact (sb.2 _ S.TIz).trans (hk _ _ S.TIz S.TITO S.TIi1 S.TIi2 hTI)
    · exact (sb.2 _ S.TOz).trans TO'
    · exact h1'.1.at fun o q => (sb.2 _ (Nat.ne_of_lt (Nat.lt_add_of_pos_right (n := N) (k := 4) (by decide)))).trans q
    · exact h2'.1.at fun o q => (sb.2 _ (Nat.ne_of_lt (Nat.add_lt_add_left (n := 1) (m := 4) (by decide) N))).trans q
    · have hlt : c < s.heap.objs.size := by
        have e' : c = N + 4 ∨ c = N + 2 ∨ c = N + 3 ∨ c = N ∨ c = N + 1 := by simpa using hcm
        have hle : (c : Nat) ≤ N + 4 := by
          rcases e' with q | q | q | q | q <;> rw [q]
          · exact Nat.le_refl _
          · exact Nat.add_le_add_left (n := 2) (m := 4) (by decide) N
          · exact Nat.add_le_add_left (n := 3) (m := 4) (by decide) N
          · exact Nat.le_add_right _ _
          · exact Nat.add_le_add_left (n := 1) (m := 4) (by decide) N
        exact Nat.lt_of_le_of_lt hle hzl
      rw [upd_ne (Nat.ne_of_lt hlt)]
      exact (hf c hcm).1
  done := by
    intro X hP hw hK hc i pins s σ H E I hf st hg
    subst hP hw hK
    obtain ⟨hz, hTI, ⟨x0, y0, hTO⟩, h1, h2⟩ := st
    obtain ⟨xs, ys, hqx, hqy, n1, n2⟩ := hg
    obtain ⟨its, rv, p, _⟩ := I.tuple hqx
    obtain ⟨its2, rv2, p2, _⟩ := I.list hqy
    have l1 := rv.length
    have l2 := rv2.length
    have hh : X.A.in1.handled = none := I.ok.hd hc
    have S : ZipSep2 (N + 4) (N + 2) (N + 3) N (N + 1) [N, a] [N + 1, b] := zip_sep2 (by simpa using ha) (by simpa using hb)
    have m1 : its.toArray.size = i := by simp; omega
    have m2 : its2.toArray.size = i := by simp; omega
    exact wpAny_pyNext_zipD2_end S (Draws.tuple hh N a (Nat.ne_of_lt ha) its.toArray) (Draws.list hh (N + 1) b (Nat.ne_of_lt (Nat.lt_succ_of_lt hb)) its2.toArray) hz hTI hTO ⟨h1, p⟩ ⟨h2, p2.isList⟩ (by omega) (by omega) (.inl m1.symm) fun h' tk hk => ⟨rfl, I.turnedL (t' := tk) (ch := [N + 4, N + 2, N + 3, N, N + 1]) (fun c o hb q =>
      hk c o (fun q' => hb (by simp [q'])) (fun q' => hb (by simp [q'])) (fun q' => hb (by simp [q'])) (fun q' => hb (by simp [q'])) q) hf⟩
  self := fun A i s Q E st h => wpAny_pyIter_zip st.1 h
def iZipTL (K : PySem.W.Frag) (ta : TA) : TI := fun σ H R => ta σ H fun vs H1 => ∃ a b xs ys, vs = [.ref a, .ref b] ∧ SqT K H1 a xs ∧ SqL K H1 b ys ∧ R (ItzTL K a b) H1
theorem pi_zipTL {X : Cx} {e e2 : Expr} {ta : TA} {p pos tpos : Pos} {elts : List Expr} {kk : Nat} (hg : Gl X "zip") (hm : X.mg "zip" = none) (ha : PA X [e, e2] ta)
    (hs : starEach [e, e2] X.env = (false, eval e X.env) :: starEach [e2] X.env := by rfl) (hpl : (backTo pos (starEach [e2] X.env)).any (·.1) = false := by rfl) :
    PI X (.Tuple elts kk tpos) (.Call (.Name "zip" p) [e, e2] [] pos) (iZipTL X.K ta) := by
  refine ⟨fun pins s σ H R I h => ?_⟩
  refine Call_ (ld_blt I hg hm PyProof.Rows.boot_zip (PyProof.Rows.callWith_type1 (thn (ha.run pos pins s σ H _ I h) fun us s1 ⟨vs, H1, I1, r1, q1⟩ => ?_) hs hpl))
  obtain ⟨a, b, xs, ys, ex, hqx, hqy, q⟩ := q1
  subst ex
  cases r1 with
  | cons r rr =>
    cases rr with
    | cons r' rr =>
      cases rr
      cases r
      cases r'
      obtain ⟨its, rv, p1, _⟩ := I1.tuple hqx
      obtain ⟨its2, rv2, p2, _⟩ := I1.list hqy
      have ha : a < s1.heap.objs.size := by obtain ⟨o, ho, _⟩ := id p1; exact Heap.lt_size ho
      refine zip_begins2 (begins_tuple a its.toArray) (begins_list b its2.toArray) p1 p2.isList fun h' hz hTI hTO h1 h2 hsz hk => wpAny_pyIter_zip hz ?_
      have I2 : Inv X pins σ H1 { s1 with heap := h' } := I1.kept (t' := s1.toks) hk
      refine ⟨s1.heap.objs.size + 4, [s1.heap.objs.size + 4, s1.heap.objs.size + 2, s1.heap.objs.size + 3, s1.heap.objs.size, s1.heap.objs.size + 1], _, _, H1, rfl, I2, turn_zipTL ha p2.lt, ⟨hz, hTI, ⟨_, _, hTO⟩, ⟨_, h1, rfl, rfl⟩, ⟨_, h2, rfl, rfl⟩⟩, fun c hcm => ?_, q⟩
      have e' : c = s1.heap.objs.size + 4 ∨ c = s1.heap.objs.size + 2 ∨ c = s1.heap.objs.size + 3 ∨ c = s1.heap.objs.size ∨ c = s1.heap.objs.size + 1 := by simpa using hcm
      have hle : s1.heap.objs.size ≤ c := by
        rcases e' with z | z | z | z | z
        · rw [z]; exact Nat.le_add_right _ _
        · rw [z]; exact Nat.le_add_right _ _
        · rw [z]; exact Nat.le_add_right _ _
        · rw [z]; exact Nat.le_refl _
        · rw [z]; exact Nat.le_add_right _ _
      exact I1.fpOk hle (I1.hok.fresh hle)
end Nw

/-! Nw6: dict(zip(t, u)) of two tuples, the keys tuples of ints. -/
namespace Nw
open PySem PySem.Spec PyProof.Rows L2 PySem.W

section
variable {prog : Program} {w : World} {A : Around} {E : Value → Shared → Prop} {s : Shared} {z TI TO i1 i2 T : Addr} {fp1 fp2 : List Addr} {n1 n2 i : Nat} {P1 P2 : Nat → Value → Prop} {St1 St2 : Nat → Heap → Prop} {f : Bool} {oT : Obj}
/-- a zip's turn while its tuple is out, over any two iterators -/
theorem zipH_item {Q : Option Value → Shared → Prop} (S : ZipSep2 z TI TO i1 i2 fp1 fp2) (D1 : Draws prog w A.in1 i1 fp1 n1 P1 St1) (D2 : Draws prog w A.in1 i2 fp2 n2 P2 St2)
    (hz : IsZipHeld s.heap z TI TO T f) (hT : s.heap.get? T = some oT) (hTI : IsTupOf2 s.heap TI (.ref i1) (.ref i2)) (st1 : St1 i s.heap) (st2 : St2 i s.heap) (lt1 : i < n1) (lt2 : i < n2)
    (hQ : ∀ x y h' tk, P1 i x → P2 i y → IsZipHeld h' z TI TO T true → St1 (i + 1) h' → St2 (i + 1) h' → IsTupOf2 h' s.heap.objs.size x y →
      (∀ c o, c ≠ z → c ≠ i1 → c ≠ i2 → s.heap.get? c = some o → h'.get? c = some o) → Q (some (.ref s.heap.objs.size)) { s with heap := h', toks := tk }) :
    wpAny (model prog w) A (pyNext (.ref z)) Q E s := by
  have hTy : s.TypeIs (.ref z) "zip" := ⟨_, hz, rfl⟩
  unfold pyNext
  refine wpAny_bind (wpAny_attempt (wpAny_callSpecial?_slot (name := Str.ofString "__next__") hTy F.slot_zip_next (wpAny_call_entry F.slot_zip_next hTy F.entry_zip_next ?_ (F.args_zip_next_1 _))))
  obtain ⟨hp, g, d, tk0, os⟩ := s
  show wpAny _ _ (field (.ref z) 2 >>= _) _ _ _
  refine wpAny_bind (wpAny_field hz rfl (x := .bool false) rfl ?_)
  show wpAny _ _ (field (.ref z) 3 >>= _) _ _ _
  refine wpAny_bind (wpAny_field hz rfl (x := .ref TI) rfl ?_)
  refine wpAny_bind (wpAny_seqItems hTI rfl ?_)
  refine wpAny_bind (wpAny_tupleHeld_zip hz hT fun g0 hz0 hs0 => ?_)
  replace hs0 : Heap.SameBut z hp g0 := hs0
  simp only [Bool.false_eq_true, if_false]
  refine wpAny_bind ?_
  rw [← Array.forIn_toList]
  simp only [List.forIn_cons, List.forIn_nil]
  refine wpAny_bind (wpAny_bind (wpAny_holding ?_))
  show wpAny _ _ (Builtin.SmallTypes.nextOf (.ref i1) >>= _) _ _ ⟨g0, g, d, tk0, os⟩
  refine wpAny_bind (D1.item i _ _ _ lt1 (D1.over st1 hs0 S.zf1) fun x p1 tk1 hx sn1 hp1 => wpAny_pure ?_)
  replace hp1 : Heap.SameBut i1 g0 p1 := hp1
  refine wpAny_pure ?_
  refine wpAny_bind (wpAny_bind (wpAny_holding ?_))
  show wpAny _ _ (Builtin.SmallTypes.nextOf (.ref i2) >>= _) _ _ ⟨p1, g, d, tk1, os⟩
  refine wpAny_bind (D2.item i _ _ _ lt2 (D2.over (D2.over st2 hs0 S.zf2) hp1 S.sep1_2) fun y p2 tk2 hy sn2 hp2 => wpAny_pure ?_)
  replace hp2 : Heap.SameBut i2 p1 p2 := hp2
  refine wpAny_pure (wpAny_pure ?_)
  show wpAny _ _ (newTuple [x, y] >>= _) _ _ ⟨p2, g, d, tk2, os⟩
  refine wpAny_bind (wpAny_newTuple ?_)
  have hsz : p2.objs.size = hp.objs.size := by rw [hp2.1, hp1.1, hs0.1]
  have hzz : IsZipHeld p2 z TI TO T true := hp2.extBut _ _ S.zi2 (hp1.extBut _ _ S.zi1 hz0)
  have hk : ∀ c o, c ≠ z → c ≠ i1 → c ≠ i2 → hp.get? c = some o → p2.get? c = some o := fun c o c1 c2 c3 e => hp2.extBut _ _ c3 (hp1.extBut _ _ c2 (hs0.extBut _ _ c1 e))
  have j1 : St1 (i + 1) p2 := D1.over sn1 hp2 S.sep2_1
  refine wpAny_pure ⟨_, rfl, wpAny_pure ?_⟩
  have hp4 : IsTupOf2 (p2.push { cls := .type "tuple", data := .seq #[x, y] }) p2.objs.size x y := Heap.get?_push_size _ rfl
  show Q (some (.ref p2.objs.size)) ⟨p2.push { cls := .type "tuple", data := .seq #[x, y] }, g, d, tk2, os⟩
  rw [hsz] at hp4 ⊢
  exact hQ x y _ tk2 hx hy (Heap.get?_push_of_some _ hzz) (D1.frame _ _ _ j1 fun b _ o e => Heap.get?_push_of_some _ e) (D2.frame _ _ _ sn2 fun b _ o e => Heap.get?_push_of_some _ e) hp4 fun c o c1 c2 c3 e => Heap.get?_push_of_some _ (hk c o c1 c2 c3 e)
/-- and its end -/
theorem zipH_end {Q : Option Value → Shared → Prop} (S : ZipSep2 z TI TO i1 i2 fp1 fp2) (D1 : Draws prog w A.in1 i1 fp1 n1 P1 St1)
    (hz : IsZipHeld s.heap z TI TO T f) (hT : s.heap.get? T = some oT) (hTI : IsTupOf2 s.heap TI (.ref i1) (.ref i2)) (st1 : St1 n1 s.heap)
    (hQ : ∀ h', (∀ c o, c ≠ z → c ≠ i1 → s.heap.get? c = some o → h'.get? c = some o) → Q none { s with heap := h' }) : wpAny (model prog w) A (pyNext (.ref z)) Q E s := by
  have hTy : s.TypeIs (.ref z) "zip" := ⟨_, hz, rfl⟩
  unfold pyNext
  refine wpAny_bind (wpAny_attempt (wpAny_callSpecial?_slot (name := Str.ofString "__next__") hTy F.slot_zip_next (wpAny_call_entry F.slot_zip_next hTy F.entry_zip_next ?_ (F.args_zip_next_1 _))))
  obtain ⟨hp, g, d, tk0, os⟩ := s
  show wpAny _ _ (field (.ref z) 2 >>= _) _ _ _
  refine wpAny_bind (wpAny_field hz rfl (x := .bool false) rfl ?_)
  show wpAny _ _ (field (.ref z) 3 >>= _) _ _ _
  refine wpAny_bind (wpAny_field hz rfl (x := .ref TI) rfl ?_)
  refine wpAny_bind (wpAny_seqItems hTI rfl ?_)
  refine wpAny_bind (wpAny_tupleHeld_zip hz hT fun g0 hz0 hs0 => ?_)
  replace hs0 : Heap.SameBut z hp g0 := hs0
  simp only [Bool.false_eq_true, if_false]
  refine wpAny_bind ?_
  rw [← Array.forIn_toList]
  simp only [List.forIn_cons, List.forIn_nil]
  refine wpAny_bind (wpAny_bind (wpAny_holding ?_))
  show wpAny _ _ (Builtin.SmallTypes.nextOf (.ref i1) >>= _) _ _ ⟨g0, g, d, tk0, os⟩
  refine wpAny_bind (D1.done ⟨g0, g, d, tk0, os⟩ _ _ (D1.over st1 hs0 S.zf1) fun q e hq he => ?_)
  replace hq : Heap.ExtBut i1 g0 q := hq
  obtain ⟨o, ho, hc⟩ := he
  refine wpAny_bind (wpAny_isInstance (T := "StopIteration") (b := true) ⟨o, ho, hc⟩ isSubtype_stop ?_)
  exact wpAny_pure (hQ q fun c o c1 c2 x => hq _ _ c2 (hs0.extBut _ _ c1 x))
end
section
variable {prog : Program} {w : World}
/-- a new zip of two tuples of one length as dict's argument -/
theorem pairArg_zipT {N a b : Addr} (ha : a < N) (hb : b < N) (xs ys : Array Value) (hl : xs.size = ys.size) :
    PairArg prog w "zip" (N + 4) [N + 4, N + 2, N + 3, N, N + 1, a, b] [N + 4, N + 3, N, N + 1] xs.size (fun i k v => xs[i]? = some k ∧ ys[i]? = some v)
      (fun h => IsZip h (N + 4) (N + 2) (N + 3) .none ∧ IsTupOf2 h (N + 2) (.ref N) (.ref (N + 1)) ∧ (∃ u v, IsTupOf2 h (N + 3) u v) ∧ (h.IsTupleIter N a 0 ∧ h.IsTuple a xs) ∧ h.IsTupleIter (N + 1) b 0 ∧ h.IsTuple b ys) where
  type := fun s ok => ⟨_, ok.1, rfl⟩
  notDict := by decide
  keep := fun h h' ok hk => by
    obtain ⟨hz, hTI, ⟨u, v, hTO⟩, ⟨h1, hl1⟩, h2, hl2⟩ := ok
    exact ⟨hk _ _ hz, hk _ _ hTI, ⟨u, v, hk _ _ hTO⟩, ⟨h1.at fun o e => hk _ o e, hl1.at fun o e => hk _ o e⟩, h2.at fun o e => hk _ o e, hl2.at fun o e => hk _ o e⟩
  there := fun h ok c hc => by
    obtain ⟨hz, hTI, ⟨u, v, hTO⟩, ⟨⟨o1, h1, _⟩, ⟨o3, hl1, _⟩⟩, ⟨o2, h2, _⟩, ⟨o4, hl2, _⟩⟩ := ok
    simp only [List.mem_cons, List.not_mem_nil, or_false] at hc
    rcases hc with rfl | rfl | rfl | rfl | rfl | rfl | rfl
    all_goals first | exact ⟨_, hz⟩ | exact ⟨_, hTI⟩ | exact ⟨_, hTO⟩ | exact ⟨_, h1⟩ | exact ⟨_, h2⟩ | exact ⟨_, hl1⟩ | exact ⟨_, hl2⟩
  sub := fun c hc => by simp at hc ⊢; rcases hc with h | h | h | h <;> simp [h]
  noKeys := fun A s Q E hA ok h => getAttrOr_miss_zip ok.1 rfl rfl rfl zip_no_keys (by decide +kernel) hA h
  iter := fun A s d Q E hA ok hd hdf h => by
    obtain ⟨hz, hTI, ⟨u, v, hTO⟩, h1, h2⟩ := ok
    simp only [List.mem_cons, List.not_mem_nil, or_false, not_or] at hdf
    obtain ⟨dz, dTI, dTO, di1, di2, dl1, dl2⟩ := hdf
    have S : ZipSep2 (N + 4) (N + 2) (N + 3) N (N + 1) [N, a] [N + 1, b] := zip_sep2 (by simpa using ha) (by simpa using hb)
    have D1 := Draws.tuple (prog := prog) (w := w) (A := A.in1) hA N a (Nat.ne_of_lt ha) xs
    have D2 := Draws.tuple (prog := prog) (w := w) (A := A.in1) hA (N + 1) b (Nat.ne_of_lt (Nat.lt_succ_of_lt hb)) ys
    refine wpAny_pyIter_zip hz (h (N + 4) [N + 4, N + 3, N, N + 1] (fun i h => IsTupOf2 h (N + 2) (.ref N) (.ref (N + 1)) ∧ (h.IsTupleIter N a i ∧ h.IsTuple a xs) ∧ (h.IsTupleIter (N + 1) b i ∧ h.IsTuple b ys) ∧
      ((IsZip h (N + 4) (N + 2) (N + 3) .none ∧ ∃ u v, IsTupOf2 h (N + 3) u v) ∨ ∃ T f oT, IsZipHeld h (N + 4) (N + 2) (N + 3) T f ∧ h.get? T = some oT ∧ T ≠ N + 4 ∧ T ≠ N ∧ T ≠ N + 1 ∧ T ≠ d)) s.heap s.toks ?_
      ⟨hTI, h1, h2, .inl ⟨hz, u, v, hTO⟩⟩ (fun _ _ e => e) fun c hc => .inl hc)
    exact {
      off := fun hm => by
        simp only [List.mem_cons, List.not_mem_nil, or_false] at hm
        rcases hm with e | e | e | e
        · exact dz e
        · exact dTO e
        · exact di1 e
        · exact di2 e
      frame := fun i h₁ h₂ st hk => by
        obtain ⟨hTI, ⟨h1, hl1⟩, ⟨h2, hl2⟩, hz⟩ := st
        refine ⟨hk _ _ (Ne.symm dTI) hTI, ⟨h1.at fun o e => hk _ o (Ne.symm di1) e, hl1.at fun o e => hk _ o (Ne.symm dl1) e⟩, ⟨h2.at fun o e => hk _ o (Ne.symm di2) e, hl2.at fun o e => hk _ o (Ne.symm dl2) e⟩, ?_⟩
        rcases hz with ⟨hz, u, v, hTO⟩ | ⟨T, f, oT, hz, hT, r1, r2, r3, r4⟩
        · exact .inl ⟨hk _ _ (Ne.symm dz) hz, u, v, hk _ _ (Ne.symm dTO) hTO⟩
        · exact .inr ⟨T, f, oT, hk _ _ (Ne.symm dz) hz, hk _ _ r4 hT, r1, r2, r3, r4⟩
      item := fun i s₁ Q₁ E₁ hi st hds hQ => by
        obtain ⟨hTI, st1, st2, hz⟩ := st
        have lt : ∀ {c o}, s₁.heap.get? c = some o → s₁.heap.objs.size ≠ c := fun e => Nat.ne_of_gt (Heap.lt_size e)
        have n1 : s₁.heap.objs.size ≠ N := let ⟨⟨_, e, _⟩, _⟩ := st1; lt e
        have n2 : s₁.heap.objs.size ≠ N + 1 := let ⟨⟨_, e, _⟩, _⟩ := st2; lt e
        rcases hz with ⟨hz, u, v, hTO⟩ | ⟨T, f, oT, hz, hT, r1, r2, r3, r4⟩
        · refine wpAny_pyNext_zipD2_item S D1 D2 hz hTI hTO st1 st2 hi (hl ▸ hi) fun x y h' tk hx hy z' TO' st1' st2' hp hsz hk => ?_
          exact hQ s₁.heap.objs.size _ _ h' tk ⟨hx, hy⟩ (.inl ⟨_, hp, rfl, _, rfl⟩)
            ⟨hk _ _ S.TIz S.TITO S.TIi1 S.TIi2 hTI, st1', st2', .inr ⟨s₁.heap.objs.size, false, _, z', hp, lt hz, n1, n2, Nat.ne_of_gt hds⟩⟩
            fun c o hc e => hk c o (fun x => hc (by simp [x])) (fun x => hc (by simp [x])) (fun x => hc (by simp [x])) (fun x => hc (by simp [x])) e
        · refine zipH_item S D1 D2 hz hT hTI st1 st2 hi (hl ▸ hi) fun x y h' tk hx hy z' st1' st2' hp hk => ?_
          exact hQ s₁.heap.objs.size _ _ h' tk ⟨hx, hy⟩ (.inl ⟨_, hp, rfl, _, rfl⟩)
            ⟨hk _ _ S.TIz S.TIi1 S.TIi2 hTI, st1', st2', .inr ⟨T, true, oT, z', hk _ _ r1 r2 r3 hT, r1, r2, r3, r4⟩⟩
            fun c o hc e => hk c o (fun x => hc (by simp [x])) (fun x => hc (by simp [x])) (fun x => hc (by simp [x])) e
      done := fun s₁ Q₁ E₁ st hQ => by
        obtain ⟨hTI, st1, st2, hz⟩ := st
        rcases hz with ⟨hz, u, v, hTO⟩ | ⟨T, f, oT, hz, hT, r1, r2, r3, r4⟩
        · exact wpAny_pyNext_zipD2_end S D1 D2 hz hTI hTO st1 st2 (Nat.le_refl _) (Nat.le_of_eq hl) (.inl rfl) fun h' tk hk => hQ h' tk fun c o hc e => hk c o (fun x => hc (by simp [x])) (fun x => hc (by simp [x])) (fun x => hc (by simp [x])) (fun x => hc (by simp [x])) e
        · exact zipH_end S D1 hz hT hTI st1 fun h' hk => hQ h' s₁.toks fun c o hc e => hk c o (fun x => hc (by simp [x])) (fun x => hc (by simp [x])) e }
end
section
variable {X : Cx}
/-- dict(zip(t, u)): t of tuples of ints, all unlike; u as long -/
def tDictZipT (K : PySem.W.Frag) (ta : TA) : TE := fun σ H Q => ta σ H fun vs H1 => ∃ (a b : Addr) (xs ys : List V) (ks : List (List Int)), vs = [.ref a, .ref b] ∧ SqT K H1 a xs ∧ TupsAt H1 xs ks ∧ ks.Nodup ∧ SqT K H1 b ys ∧ xs.length = ys.length ∧
  ∀ p, H1 p = none → Q (.ref p) (upd H1 p (.dT ((ks.map fun k => k.map Sum.inl).zip ys)))
theorem zip_addrs {H : Hp} {K : PySem.W.Frag} : ∀ {xs ys : List V} {its its2 : List Value} {ks : List (List Int)}, TupsAt H xs ks → Vals xs its → Vals ys its2 → xs.length = ys.length →
    ∃ ps : List (List Key × Addr × Value), ps.map (·.1) = ks.map (fun k => k.map Sum.inl) ∧ ps.length = xs.length ∧ (∀ x ∈ ps, H x.2.1 = some (.tup (x.1.map kV))) ∧ (∀ (i : Nat) (key v : Value), its[i]? = some key → its2[i]? = some v → ∃ (k : List Key) (b : Addr), ps[i]? = some (k, b, v) ∧ key = Value.ref b) ∧
      Paired (fun (p : List Key × V) (q : List Key × Addr × Value) => p.1 = q.1 ∧ H q.2.1 = some (.tup (p.1.map kV)) ∧ RelV p.2 q.2.2) ((ks.map fun k => k.map Sum.inl).zip ys) ps
  | _, [], _, _, _, .nil, .nil, .nil, _ => ⟨[], rfl, rfl, (fun x h => nomatch h), fun i key v e => by simp at e, .nil⟩
  | _, _ :: _, _, _, _, .nil, .nil, .cons _ _, h => by simp at h
  | _, [], _, _, _, .cons _ _, .cons _ _, .nil, h => by simp at h
  | x :: xs, y :: ys, u :: its, u2 :: its2, k :: ks, .cons ⟨a, e, h⟩ t, .cons r t1, .cons r2 t2, hl => by
    obtain ⟨ps, h1, h2, h3, h4, h5⟩ := zip_addrs (K := K) t t1 t2 (by simpa using hl)
    subst e
    cases r
    have hk : H a = some (.tup ((k.map (Sum.inl : Int → Key)).map kV)) := by rw [key_tups]; exact h
    refine ⟨(k.map Sum.inl, a, u2) :: ps, by simp [h1], by simp [h2], fun x hx => ?_, fun i key v e1 e2 => ?_, .cons ⟨rfl, hk, r2⟩ h5⟩
    · rcases List.mem_cons.mp hx with z | z
      · rw [z]; exact hk
      · exact h3 x z
    · cases i with
      | zero =>
        simp at e1 e2
        exact ⟨k.map Sum.inl, a, by simp [← e2], e1.symm⟩
      | succ i => simpa using h4 i key v (by simpa using e1) (by simpa using e2)
theorem pe_dictZipT {a a2 : Expr} {ta : TA} {p p2 q pos : Pos} (hu : X.A.units + 64 < cLine) (hcalm : X.calm = true) (hg : Gl X "dict") (hm : X.mg "dict" = none) (hg2 : Gl X "zip") (hm2 : X.mg "zip" = none) (ha : PA X [a, a2] ta)
    (hs : starEach [a, a2] X.env = (false, eval a X.env) :: starEach [a2] X.env := by rfl) (hpl : (backTo q (starEach [a2] X.env)).any (·.1) = false := by rfl)
    (na : starEach [.Call (.Name "zip" p2) [a, a2] [] q] X.env = (false, eval (.Call (.Name "zip" p2) [a, a2] [] q) X.env) :: starEach [] X.env := by rfl) : PE X (.Call (.Name "dict" p) [.Call (.Name "zip" p2) [a, a2] [] q] [] pos) (tDictZipT X.K ta) := by
  refine ⟨fun pins s σ H Q I h => ?_⟩
  refine Call_ (ld_blt I hg hm PyProof.Rows.boot_dict ?_)
  refine PyProof.Rows.callWith_type1 (PyProof.Rows.args_cons ?_ rfl) na rfl
  refine Call_ (ld_blt I hg2 hm2 PyProof.Rows.boot_zip (PyProof.Rows.callWith_type1 (thn (ha.run q pins s σ H _ I h) fun us s1 ⟨vs, H1, I1, r1, q1⟩ => ?_) hs hpl))
  obtain ⟨a, b, xs, ys, ks, ex, hqx, tx, hnd, hqy, hl, q1⟩ := q1
  subst ex
  cases r1 with
  | cons r rr =>
    cases rr with
    | cons r' rr =>
      cases rr
      cases r
      cases r'
      obtain ⟨its, rv, p1, hz1⟩ := I1.tuple hqx
      obtain ⟨its2, rv2, p2, _⟩ := I1.tuple hqy
      have ha : a < s1.heap.objs.size := by obtain ⟨o, ho, _⟩ := id p1; exact Heap.lt_size ho
      have hb : b < s1.heap.objs.size := by obtain ⟨o, ho, _⟩ := id p2; exact Heap.lt_size ho
      have l1 := rv.length
      have l2 := rv2.length
      refine zip_begins2 (begins_tuple a its.toArray) (begins_tuple b its2.toArray) p1 p2 fun h' hz hTI hTO h1 h2 hsz hk => ?_
      refine PyProof.Rows.args_nil ?_
      have I2 : Inv X pins σ H1 { s1 with heap := h' } := I1.kept (t' := s1.toks) hk
      obtain ⟨ps, k1, k2, k3, k4, k5⟩ := zip_addrs (K := X.K) tx rv rv2 hl
      have hsize : its.toArray.size = its2.toArray.size := by simp; omega
      have hpn : (ps.map (·.1)).Nodup := by
        rw [k1]
        refine List.Pairwise.map _ (fun x y hxy e => hxy ?_) hnd
        exact List.map_inj_right (f := (Sum.inl : Int → Key)) (fun x y e => Sum.inl.inj e) |>.mp e
      have at1 : h'.IsTuple a its.toArray := (show s1.heap.IsTuple a its.toArray from p1).at fun o e => hk _ _ e
      have at2 : h'.IsTuple b its2.toArray := (show s1.heap.IsTuple b its2.toArray from p2).at fun o e => hk _ _ e
      refine call_dict_pairsH (knd := tupleKind (mixKind X.prog X.w)) (ps := ps) (s := { s1 with heap := h' }) (pairArg_zipT (prog := X.prog) (w := X.w) ha hb its.toArray its2.toArray hsize) (I1.ok.hd hcalm) (tupleKind_room_in1 (by show X.A.units + 1 + 1 < cLine; omega)) ⟨hz, hTI, ⟨_, _, hTO⟩, ⟨⟨_, h1, rfl, rfl⟩, at1⟩, ⟨_, h2, rfl, rfl⟩, at2⟩
        ⟨by simp; omega, fun i key v ⟨e1, e2⟩ => k4 i key v (by simpa using e1) (by simpa using e2)⟩ ?_ (by simp; omega) fun h'' tk dd hk2 => ?_
      · intro g hkg x hx
        have hx1 := key_of I1.hok (k3 x hx)
        obtain ⟨o, xs', n, g1, g2, g3, g4⟩ := hx1
        refine ⟨o, xs', n, ?_, g2, g3, g4⟩
        have lt : x.2.1 < s1.heap.objs.size := Heap.lt_size g1
        refine hkg _ _ (Nat.ne_of_lt (Nat.lt_of_lt_of_le lt ?_)) ?_ (hk _ _ g1)
        · rw [hsz]; exact Nat.le_add_right _ _
        · intro hm
          simp only [List.mem_cons, List.not_mem_nil, or_false] at hm
          rcases hm with e | e | e | e
          · exact absurd (e ▸ lt) (Nat.not_lt.mpr (Nat.le_add_right _ _))
          · exact absurd (e ▸ lt) (Nat.not_lt.mpr (Nat.le_add_right _ _))
          · exact absurd (e ▸ lt) (Nat.lt_irrefl _)
          · exact absurd (e ▸ lt) (Nat.not_lt.mpr (Nat.le_add_right _ _))
      · rw [storedAllH_nil_of_nodup ps hpn] at dd
        have hN : s1.heap.objs.size ≤ h'.objs.size := by rw [hsz]; exact Nat.le_add_right _ _
        have hfr : H1 h'.objs.size = none := I2.hok.fresh (Nat.le_refl _)
        obtain ⟨o, es, ep, ho, e2, e3, e4, _, e5⟩ := dd
        have hnil : ps.length ≤ sizeLine := by omega
        have hKl : ((ks.map fun k => k.map Sum.inl).zip ys).length = ps.length := Paired.length k5
        have keep : ∀ c o', s1.heap.get? c = some o' → h''.get? c = some o' := fun c o' e => by
          have lt := Heap.lt_size e
          refine hk2 c o' ?_ (hk c o' e)
          intro hm
          simp only [List.mem_cons, List.not_mem_nil, or_false] at hm
          rcases hm with q | q | q | q
          · exact absurd (q ▸ lt) (Nat.not_lt.mpr (Nat.le_add_right _ _))
          · exact absurd (q ▸ lt) (Nat.not_lt.mpr (Nat.le_add_right _ _))
          · exact absurd (q ▸ lt) (Nat.lt_irrefl _)
          · exact absurd (q ▸ lt) (Nat.not_lt.mpr (Nat.le_add_right _ _))
        have new : ObjOk X.prog X.w (upd H1 h'.objs.size (.dT ((ks.map fun k => k.map Sum.inl).zip ys))) h'' h'.objs.size (.dT ((ks.map fun k => k.map Sum.inl).zip ys)) := by
          refine ⟨by omega, ?_, ps, Paired.mapP k5 fun p q ⟨r1, r2, r3⟩ => ⟨r1, ?_, r3⟩, o, es, ep, ho, e2, e3, e4, e5⟩
          · exact beq_false_of_ne (Nat.ne_of_gt (Nat.lt_of_lt_of_le I1.big hN))
          · rw [upd_ne (ne_of_none r2 hfr)]; exact r2
        exact ⟨.ref h'.objs.size, _, I1.laid (t' := tk) keep hN new, rfl, q1 _ (I1.hok.fresh hN)⟩
end
end Nw

/-! Nw7: a dict comprehension whose keys are tuples. -/
namespace Nw
open PySem PySem.Spec PyProof.Rows L2

/-- the reading of a store into the dict at D -/
def tStoreT (D : Addr) (y z : V) (H : Hp) (Q : Hp → Prop) : Prop := ∃ (b : Addr) (kvs : List (List Key × V)) (k : List Key), y = .ref b ∧ H D = some (.dT kvs) ∧ H b = some (.tup (k.map kV)) ∧ kvs.length < sizeLine ∧ Q (upd H D (.dT (putK kvs k z)))
theorem store_T {X : Cx} {pins : List (Addr × Obj)} {σ : L2.St} {H : Hp} {s : Shared} {E : Value → Shared → Prop} {D : Addr} {y z : V} {u r : Value} {Q : Hp → Prop} (hu : X.A.units + 1 < cLine) (I : Inv X pins σ H s) (ry : RelV y u) (rz : RelV z r) (h : tStoreT D y z H Q) :
    wpAny (model X.prog X.w) X.A (dictSet D u r) (fun _ s' => ∃ H', Inv X pins σ H' s' ∧ Q H') E s := by
  obtain ⟨b, kvs, k, rfl, hD, hb, hl, q⟩ := h
  cases ry
  obtain ⟨z, hs, ys, rel, dd⟩ := dt_of I.hok hD
  have hz : ys.length ≤ sizeLine := by rw [← Paired.length rel]; exact z
  refine wpAny_dictSet_heap (hsz := hz) (show X.A.units < cLine by omega) (key_of I.hok hb) dd fun h' dd' sb => ?_
  exact ⟨_, stored_ok I hD hb rz hl hs rel dd' sb, q⟩
section
variable {X : Cx}
/-- {k: v for target in iter if ..}, keys tuples: D the new dict -/
def tDcT (wi : TI) (g : TG) (tt : TT) (tk tv : TE) (vs : List Nat) : TE := fun σ H Q => wi σ H fun J H1 => ∀ D, H1 D = none → ∃ W : Nat → Nat → Hp → Prop, (∃ m, W 0 m (upd H1 D (.dT []))) ∧ ∀ i m H, W i m H →
  (J.stop i H ∧ Q (.ref D) H) ∨ (J.go i H ∧ ∃ Nx : Hp → Prop, (∀ H', Nx H' → ∃ m', m' < m ∧ W (i + 1) m' H') ∧ ∀ x H', J.yld i H x H' → g x (wipe σ vs) H' fun σ2 H2 => wipe σ2 vs = wipe σ vs ∧ tt σ2 H2 fun b H3 =>
    if b = true then tk σ2 H3 fun y H4 => tv σ2 H4 fun z H5 => tStoreT D y z H5 Nx else Nx H3)
theorem pe_dcT {kx vx tg iter : Expr} {ifs : List Expr} {scope : Scope} {own : List (Str × Nat)} {pos : Pos} {wi : TI} {g : TG} {tt : TT} {tk tv : TE} (hu : X.A.units + 1 < cLine) (hc : X.calm = true) (hN : X.N.Nodup) (hi : PI X tg iter wi) (ok : BlkOk X.N X.env.scope scope own)
    (hg : ∀ (s : Shared) (H : Hp) (C : Addr) (cl : List (Str × Addr)) (fp : List Addr), PG (X.blk s H scope (compEnvC scope cl C X.env) fp) tg g) (ht : ∀ (s : Shared) (H : Hp) (C : Addr) (cl : List (Str × Addr)) (fp : List Addr), PTs (X.blk s H scope (compEnvC scope cl C X.env) fp) ifs tt)
    (hk : ∀ (s : Shared) (H : Hp) (C : Addr) (cl : List (Str × Addr)) (fp : List Addr), PE (X.blk s H scope (compEnvC scope cl C X.env) fp) kx tk)
    (he : ∀ (s : Shared) (H : Hp) (C : Addr) (cl : List (Str × Addr)) (fp : List Addr), PE (X.blk s H scope (compEnvC scope cl C X.env) fp) vx tv) (hs : ∀ x, foldedSetIterable iter X.env x = pure x := by intro _; rfl) :
    PE X (.DictComp kx vx [⟨tg, iter, ifs, 0⟩] scope pos) (tDcT wi g tt tk tv (own.map (·.2))) := by
  refine ⟨fun pins s σ H Q I h => ?_⟩
  rw [arm_eval_DictComp]
  have hfree : ∀ y ∈ scope.names, y.2 = .free → ∃ c, X.env.cells.lookup y.1 = some c := fun y hy e => by
    rcases ok.free y hy e with k | k
    · exact I.ok.has _ (.inl k)
    · exact I.ok.has _ (.inr k)
  refine wpAny_comprehension_free rfl hs (closure_ok hfree) ok.kind (fun y hy e => by rw [ok.uniq y hy, e])
    (thn (hi.run pins s σ H _ I h) fun xv s1 hx => thn hx fun itv s2 h2 => ?_)
  obtain ⟨it, fp, tn, J, H2, e, I2, T, st2, f2, q⟩ := h2
  subst e
  refine wpAny_newObj_type (newEnv_comp ?_)
  -- the new dict at D, the block's own objects behind it
  generalize hD : s2.heap.objs.size = D
  have sz : ∀ b ∈ fp, b < s2.heap.objs.size := fun b hb => by
    obtain ⟨o, e, _⟩ := T.obj _ _ st2 b hb
    exact Heap.lt_size e
  obtain ⟨W, ⟨m0, w0⟩, turn⟩ := q D (I2.hok.fresh (Nat.le_of_eq hD))
  obtain ⟨s3, hs3⟩ : ∃ s3 : Shared, ({ s2 with heap := s2.heap.push { cls := .type "dict", data := .dict #[] } } : Shared) = s3 := ⟨_, rfl⟩
  have h3 : s3.heap = s2.heap.push { cls := .type "dict", data := .dict #[] } := by rw [← hs3]
  have I3 : Inv X pins σ (upd H2 D (.dT [])) s3 := by
    rw [← hs3]
    refine I2.laid (t' := s2.toks) (fun b o e => Heap.get?_push_of_some _ e) (Nat.le_of_eq hD) ?_
    rw [← hD]
    exact dt_empty s2.heap I2.big
  have f3 : ∀ b ∈ fp, FpOk X pins (upd H2 D (.dT [])) b ∧ b < s3.heap.objs.size := fun b hb => by
    have hlt := sz b hb
    refine ⟨⟨?_, (f2 b hb).2⟩, by rw [h3, Heap.size_push]; exact Nat.lt_succ_of_lt hlt⟩
    rw [upd_ne (by rw [← hD]; exact Nat.ne_of_lt hlt)]
    exact (f2 b hb).1
  have st3 : tn 0 s3.heap := T.keep _ _ _ st2 fun b _ o e => by rw [h3]; exact Heap.get?_push_of_some _ e
  have I4 := block_start I3 ok hN f3
  have pg := hg s3 (upd H2 D (.dT [])) s3.heap.objs.size (cellsFrom (s3.heap.objs.size + 1) scope.names (cloFrom X.env.cells scope.names [])) fp
  have pt := ht s3 (upd H2 D (.dT [])) s3.heap.objs.size (cellsFrom (s3.heap.objs.size + 1) scope.names (cloFrom X.env.cells scope.names [])) fp
  have pk := hk s3 (upd H2 D (.dT [])) s3.heap.objs.size (cellsFrom (s3.heap.objs.size + 1) scope.names (cloFrom X.env.cells scope.names [])) fp
  have pe := he s3 (upd H2 D (.dT [])) s3.heap.objs.size (cellsFrom (s3.heap.objs.size + 1) scope.names (cloFrom X.env.cells scope.names [])) fp
  show codeAny _ _ (.compStart (.DictComp kx vx [⟨tg, iter, ifs, 0⟩] scope pos) 0 (.ref it) (.ref D) (compEnvC scope (cellsFrom ((s2.heap.push { cls := .type "dict", data := .dict #[] }).objs.size + 1) scope.names (cloFrom X.env.cells scope.names [])) (s2.heap.push { cls := .type "dict", data := .dict #[] }).objs.size X.env)) (compPost (model X.prog X.w) X.A X.xe _ _ (.ref D) (s2.heap.push { cls := .type "dict", data := .dict #[] }).objs.size) { ({ s2 with heap := s2.heap.push { cls := .type "dict", data := .dict #[] } } : Shared) with heap := pushCells ((s2.heap.push { cls := .type "dict", data := .dict #[] }).push { cls := .type "dict", data := .dict #[] }) scope.names }
  rw [hs3, ← h3]
  obtain ⟨ce, hce⟩ : ∃ ce, compEnvC scope (cellsFrom (s3.heap.objs.size + 1) scope.names (cloFrom X.env.cells scope.names [])) s3.heap.objs.size X.env = ce := ⟨_, rfl⟩
  rw [hce] at I4 pg pt pk pe ⊢
  have cL : ce.locals = s3.heap.objs.size := by subst hce; rfl
  obtain ⟨H3, hH3⟩ : ∃ H3, upd H2 D (.dT []) = H3 := ⟨_, rfl⟩
  rw [hH3] at I3 I4 pg pt pk pe w0 f3
  obtain ⟨s4, hs4⟩ : ∃ s4, ({ s3 with heap := pushCells (s3.heap.push { cls := .type "dict", data := .dict #[] }) scope.names } : Shared) = s4 := ⟨_, rfl⟩
  rw [hs4] at I4 ⊢
  have st4 : tn 0 s4.heap := T.keep _ _ _ st3 fun b _ o e => by rw [← hs4]; exact pushCells_keeps _ _ _ _ (Heap.get?_push_of_some _ e)
  have stat : ∀ {σ' : L2.St} {H' : Hp} {s' : Shared}, Inv (X.blk s3 H3 scope ce fp) [] σ' H' s' → (∀ b ∈ fp, H' b = none) → ∀ b ∈ fp, FpOk (X.blk s3 H3 scope ce fp) [] H' b := fun {σ' H' s'} I' hn b hb =>
    ⟨hn b hb, (I'.ok.exf b hb).1, I'.ok.exfs b hb, .inl hb, fun x c e => (I'.ok.exf b hb).2 x c e, fun p hp => absurd (show p ∈ ([] : List (Addr × Obj)) ++ [] from hp) (by simp)⟩
  refine codeAny_compStart_dict ?_ (T.self X.A 0 _ _ _ st4 ?_)
  all_goals
    refine compLoop_anyD (fun n s' => ∃ i H', Inv (X.blk s3 H3 scope ce fp) [] (wipe σ (own.map (·.2))) H' s' ∧ tn i s'.heap ∧ (∀ b ∈ fp, H' b = none) ∧ W i n H') ?_ m0 ⟨0, H3, I4, st4, fun b hb => (f3 b hb).1.1, w0⟩
    rintro n s5 ⟨i, H5, I5, st5, n5, w5⟩
    rcases turn i n H5 w5 with ⟨stop, qq⟩ | ⟨go, Nx, hNx, step⟩
    · refine thnF (T.done (X.blk s3 H3 scope ce fp) rfl rfl rfl hc i [] s5 _ H5 (fun _ _ => False) I5 (stat I5 n5) st5 stop) fun r s6 ⟨hr, I6⟩ => ?_
      subst hr
      have I7 : Inv X pins σ H5 s6 := I3.call' (ch := fp) I6.os I6.base I6.hok I6.bare fun b hb => ⟨(f3 b hb).1.2.2.2.1, (f3 b hb).1.2.1, (f3 b hb).1.2.2.2.2.1, (f3 b hb).1.2.2.2.2.2⟩
      have nC : H5 s3.heap.objs.size = none := by
        have z : H5 ce.locals = none := I6.free
        rw [cL] at z
        exact z
      obtain ⟨m, hn, _⟩ := I6.loc
      have hn : s6.heap.Ns ce.locals m := hn
      rw [cL] at hn
      refine ⟨m, hn, fun h'' sb => ?_⟩
      obtain ⟨f0, f1, f2', f3', f4, f5⟩ := I3.fpOk (H' := H5) (Nat.le_refl _) nC
      exact ⟨.ref D, H5, I7.turned (t' := s6.toks) (fun b o hb e => (sb.2 b hb).trans e) f0 f1 f3' f4 f5, rfl, qq⟩
    · refine thnF (T.item (X.blk s3 H3 scope ce fp) rfl rfl rfl hc i [] s5 _ H5 (fun _ _ => False) I5 (stat I5 n5) st5 go) fun r s6 ⟨u, hr, h6⟩ => ?_
      subst hr
      refine thnF h6 fun _ s7 ⟨x, H7, I7, r7, y7, st7, n7⟩ => ?_
      refine thnF (pg.run _ s7 _ H7 x u _ (I7.pinned (stat I7 n7) (T.obj _ _ st7)) r7 (step x H7 y7)) fun _ s8 ⟨σ8, H8, I8, hw8, q8⟩ => ?_
      refine thnF (pt.run _ s8 σ8 H8 _ I8 q8) fun b s9 ⟨H9, I9, q9⟩ => ?_
      have fin : ∀ {s' : Shared} {H' : Hp}, Inv (X.blk s3 H3 scope ce fp) ([] ++ pinsAt fp s7.heap) σ8 H' s' → Nx H' → ∃ m, m < n ∧ ∃ i H', Inv (X.blk s3 H3 scope ce fp) [] (wipe σ (own.map (·.2))) H' s' ∧ tn i s'.heap ∧ (∀ b ∈ fp, H' b = none) ∧ W i m H' := fun {s' H'} I' nx => by
        obtain ⟨m', hm, w'⟩ := hNx H' nx
        have pin' : ∀ b ∈ fp, ∀ o, s7.heap.get? b = some o → s'.heap.get? b = some o ∧ H' b = none := fun b hb o e =>
          let z := I'.pin (b, o) (List.mem_append_right _ (List.mem_append_right _ (mem_pinsAt hb e)))
          ⟨z.1, z.2.1⟩
        have hl : (wipe σ (own.map (·.2))).length = σ8.length := by rw [← hw8, wipe_length]
        refine ⟨m', hm, i + 1, H', (I'.unpinned (pins := [])).weak hl (fun j v e => ?_), T.keep _ _ _ st7 fun b hb o e => (pin' b hb o e).1, fun b hb => ?_, w'⟩
        · rw [← hw8] at e
          exact (wipe_some e).1
        · obtain ⟨o, e, _⟩ := T.obj _ _ st7 b hb
          exact (pin' b hb o e).2
      cases b with
      | false =>
        simp only [Bool.false_eq_true, if_false] at q9 ⊢
        exact fin I9 q9
      | true =>
        simp only [if_true] at q9 ⊢
        refine thnF (pk.run _ s9 σ8 H9 _ I9 q9) fun z s10 ⟨yk, H10, I10, r10, q10⟩ => ?_
        refine thnF (pe.run _ s10 σ8 H10 _ I10 q10) fun z2 s11 ⟨yv, H11, I11, r11, q11⟩ => ?_
        exact thnF (store_T (X := X.blk s3 H3 scope ce fp) (E := fun _ _ => False) hu I11 r10 r11 q11) fun _ s12 ⟨H12, I12, q12⟩ => fin I12 q12
end
end Nw

/-! Nw8: defs that are only run where no container's text is being made (for repr); a call by keyword alone. -/
namespace Nw
open PySem PySem.Spec PyProof.Rows L2

/-- as FnOk, at the places where no guard stands -/
structure FnG (P : Program) (w : World) (K : PySem.W.Frag) (mg : Str → Option Value) (base : Heap) (k : Nat) (f : Addr) (fd : FuncData) (ps : List Str) (sp : Sp) : Prop where
  len : ∀ vs H Q E, sp vs H Q E → vs.length = ps.length
  run : ∀ (A : Around) (outer : List Env) (s : Shared) (H : Hp) (args : Args) (us : List Value) (vs : List V) (Q : VK) (E : XK), Room k A → A.guards = some [] → Env0 P w K mg base A outer s H → BindsTo s fd args (ps.zip us) → Vals vs us → sp vs H Q E →
    codeAny (model P w) A (.call (.ref f) args) (CR CX0 outer P w H s Q E) s
section
variable {P : Program} {w : World} {K : PySem.W.Frag} {mg : Str → Option Value} {base : Heap}
theorem fnG_of {x qual : Str} {st : Stmt} {f : Addr} {fd : FuncData} {N ps : List Str} {k : Nat} {sp : Sp} (F : Fun K x qual st f fd) (S : FnScope N ps (defScope st)) (len : ∀ vs H Q E, sp vs H Q E → vs.length = ps.length)
    (hbody : ∀ (cdv : Value) (A : Around) (outer : List Env) (s : Shared) (H : Hp) (vs : List V) (Q : VK) (E : XK), Room k (A.deeper (envOfC qual (defScope st) s.heap.objs.size f cdv)) → (A.deeper (envOfC qual (defScope st) s.heap.objs.size f cdv)).guards = some [] → sp vs H Q E →
      ∃ t, PSs (cxOf CX0 P w K mg base N qual (defScope st) f cdv A outer s H E).nox (defBody st) t ∧ t { nx := fun _ H' => Q .non H', rt := Q } (L2.start N vs) H) : FnG P w K mg base (k + 1) f fd ps sp := by
  obtain ⟨oc, od, kV, doc, pm, an, cdv, ct, osl, rfl, lk, hcd⟩ := F.ex
  refine ⟨len, fun A outer s H args us vs Q E hr hgd e0 hb r hsp => ?_⟩
  have hl := len _ _ _ _ hsp
  have KX : K.In s.heap := e0.mod.kin.keeps fun b o e => (e0.bs b o e).1
  have lim : s.heap.NoLimit := e0.mod.nolimit.keeps fun b o e => (e0.bs b o e).1
  refine codeAny_call_function hr.depth (KX _ _ lk) rfl S.co S.gen rfl (PySem.W.codeRec_of KX hcd) (hb _ _ _ _ ?_)
  refine wpAny_newFunctionEnv_cells S.kind (fun ⟨n, v⟩ hy => (S.par n (List.of_mem_zip hy).1).imp id fun q => ⟨q, PySem.W.cellsFrom_some _ _ _ (.inl q)⟩) fun env he s1 x => ?_
  subst he
  refine ⟨lim.keeps x.toInCall.keep, codeAny_func ?_⟩
  obtain ⟨t, ht, hq⟩ := hbody cdv A outer s H vs Q E (hr.deeper _) hgd hsp
  have I : Inv (cxOf CX0 P w K mg base N qual (defScope st) f cdv A outer s H E) [] (L2.start N vs) H s1 := inv_start S hr.hd e0 hl r x
  refine wpAny_mono (ht.nox.run [] s1 (L2.start N vs) H _ I hq) (fun fl s' hs => ?_) fun e s' hs => hs
  cases fl with
  | ret u =>
    obtain ⟨v, σ', H', J, rv, q⟩ := hs
    exact ⟨v, H', J.os, J.bare, J.base, J.hok, rv, q⟩
  | next =>
    obtain ⟨σ', H', J, q⟩ := hs
    exact ⟨V.non, H', J.os, J.bare, J.base, J.hok, rfl, q⟩
  | brk => exact (hs.choose_spec.choose_spec.2 : False).elim
  | cont => exact (hs.choose_spec.choose_spec.2 : False).elim
end
section
variable {X : Cx} {k : Nat} {f : Addr} {fd : FuncData} {ps : List Str} {sp : Sp} {x : Str} {p pos : Pos} {e : Expr} {es : List Expr} {t : TA}
theorem ran {pins : List (Addr × Obj)} {σ : L2.St} {H : Hp} {s s' : Shared} {Q : VK} {E : XK} {r : Result} (I : Inv X pins σ H s) (h : CR CX0 X.stack X.prog X.w H s Q E r s') : (match r with
    | .ok (.ret u) => EP X pins σ Q u s'
    | .ok _ => False
    | .error _ => False) := by
  cases r with
  | error e => exact h
  | ok fl =>
    cases fl with
    | ret u => exact I.after h
    | next => exact h
    | brk => exact h
    | cont => exact h
theorem pe_callG (F : FnG X.prog X.w X.K X.mg X.base k f fd ps sp) (hr : Room k X.A) (hgd : X.A.guards = some []) (hg : Gl X x) (hm : X.mg x = some (.ref f)) (hk : PySem.W.keepIn X.K (.ref f) = true) (hb : Binds X.K fd ps [])
    (ha : PA X (e :: es) t) (hdb : (x == ("__debug__" : Str)) = false := by decide) (he : starEach (e :: es) X.env = (false, eval e X.env) :: starEach es X.env := by rfl) (hpl : (backTo pos (starEach es X.env)).any (·.1) = false := by rfl) :
    PE X (.Call (.Name x p) (e :: es) [] pos) (tCall sp [] E0 t) := by
  refine ⟨fun pins s σ H Q I h => ?_⟩
  refine wpAny_Call_Name_kw (ld_glob I hg hm ?_ hdb)
  refine PySem.W.callWith_K (h₀ := X.base) I.ok.mod.kin hk (thn (ha.run pos pins s σ H _ I h) fun us s1 ⟨vs, H1, I1, r, q⟩ => ⟨I1.kIn, ?_⟩) he hpl
  have q : sp (vs ++ []) H1 Q E0 := q
  rw [List.append_nil] at q
  have hl : us.length = ps.length := by rw [← r.length]; exact F.len _ _ _ _ q
  have hbd := hb s1 us I1.kIn (by rw [List.append_nil]; exact hl)
  rw [List.append_nil] at hbd
  refine wpAny_call (codeAny_mono (F.run X.A X.stack s1 H1 ⟨us, []⟩ us vs Q E0 hr hgd I1.env0 hbd r q) fun r s' hq => ?_)
  have z := ran I1 hq
  cases r with
  | error e => exact z.elim
  | ok fl =>
    cases fl with
    | ret u => exact z
    | next => exact z.elim
    | brk => exact z.elim
    | cont => exact z.elim
/-- f(k = e) -/
theorem pe_callKw1 {kn : Str} {kpos : Pos} {te : TE} (F : FnOk X.prog X.w X.K X.mg X.base CX0 k f fd [kn] sp) (hr : Room k X.A) (hg : Gl X x) (hm : X.mg x = some (.ref f)) (hk : PySem.W.keepIn X.K (.ref f) = true) (hb : ∀ (s : Shared) (u : Value), BindsTo s fd ⟨[], [(kn, u)]⟩ [(kn, u)])
    (ha : PE X e te) (hdb : (x == ("__debug__" : Str)) = false := by decide) : PE X (.Call (.Name x p) [] [⟨some kn, e, kpos⟩] pos) (tCall sp [] E0 (tCons te tNil)) := by
  refine ⟨fun pins s σ H Q I h => ?_⟩
  refine wpAny_Call_Name_kw (ld_glob I hg hm ?_ hdb)
  refine PySem.W.callWith_KW0 (h₀ := X.base) I.ok.mod.kin hk rfl (thn ((pk_cons (nm := some kn) (kpos := kpos) ha pk_nil).run pos pins s σ H _ I h) fun us s1 ⟨vs, H1, I1, r, q⟩ => ⟨I1.kIn, ?_⟩) rfl
  have q : sp (vs ++ []) H1 Q E0 := q
  rw [List.append_nil] at q
  have hl : us.length = 1 := by rw [← r.length]; exact F.len _ _ _ _ q
  match us, hl with
  | [u], _ =>
    refine wpAny_call (codeAny_mono (F.run X.A X.stack s1 H1 ⟨[], [(kn, u)]⟩ [u] vs Q E0 hr I1.env0 (hb s1 u) r q) fun r s' hq => ?_)
    have z := ran I1 hq
    cases r with
    | error e => exact z.elim
    | ok fl =>
      cases fl with
      | ret u => exact z
      | next => exact z.elim
      | brk => exact z.elim
      | cont => exact z.elim
end

/-- the law's call behind the top, by such a promise -/
theorem law_callG {P : Program} {w : World} {K : PySem.W.Frag} {mg mb : Str → Option Value} {k : Nat} {fa a : Addr} {fd : FuncData} {x : Str} {sp : Sp} {s₁ : Shared} {vs : List Value} {ns : List Int}
    (KX : K.In s₁.heap) (hns : s₁.heap.Ns mainGlobals mg) (hb : s₁.heap.Ns builtinsNs mb) (hbb : ∀ x : Str, x ≠ "__name__" → mb x = bootBuiltins x) (hlim : s₁.heap.NoLimit) (hg : s₁.gens = #[])
    (ha : s₁.heap.get? a = some { cls := .type "list", data := .seq vs.toArray }) (hi : IntsAre vs ns) (hl : ns.length ≤ sizeLine) (hr : Room k callerA)
    (F : ∀ base : Heap, K.In base → base.Ns mainGlobals mg → FnG P w K mg base k fa fd [x] sp) (hbind : ∀ (s : Shared) (u : Value), BindsTo s fd ⟨[u], []⟩ [(x, u)])
    (hsp : ∀ H : Hp, Only H → SqL K H a (ns.map V.int) → sp [.ref a] H (fun v _ => v = .bl true) fun _ _ _ => False) :
    codeAny (model P w) callerA (.call (.ref fa) ⟨[.ref a], []⟩) (fun r s' => r = .ok (.ret (.bool true)) ∧ PySem.OldK s₁.heap s'.heap ∧ s'.os = s₁.os ∧ AllBare s'.gens) s₁ := by
  have rv := vals_ints hi
  -- what a heap with nothing but the script gives
  have core : ∀ H : Hp, Only H → SqL K H a (ns.map V.int) → HOk P w H s₁.heap → (∀ b, H b ≠ none → b = a) → (H a ≠ none → K.lookup a = none) →
      codeAny (model P w) callerA (.call (.ref fa) ⟨[.ref a], []⟩) (fun r s' => r = .ok (.ret (.bool true)) ∧ PySem.OldK s₁.heap s'.heap ∧ s'.os = s₁.os ∧ AllBare s'.gens) s₁ := by
    intro H hO hS hok hA hK
    have noA : ∀ {b : Addr} {o : Obj} {es : Array DictEntry} {ep : Nat}, s₁.heap.get? b = some o → o.data = .dict es ep → H b = none := fun {b o es ep} e d => by
      cases q : H b with
      | none => rfl
      | some u =>
        obtain rfl : b = a := hA b (by rw [q]; simp)
        rw [ha] at e
        cases e
        exact nomatch (show Data.seq vs.toArray _ = Data.dict es ep from d)
    have nsK : ∀ {b : Addr} {m : Str → Option Value}, s₁.heap.Ns b m → (hidT s₁.heap H).Ns b m := fun {b m} ⟨o, es, ep, e, d, r⟩ => ⟨o, es, ep, hidT_get e (noA e d), d, r⟩
    have hKb : K.In (hidT s₁.heap H) := fun b o e => hidT_get (KX b o e) (by
      cases q : H b with
      | none => rfl
      | some u =>
        obtain rfl : b = a := hA b (by rw [q]; simp)
        rw [hK (by rw [q]; simp)] at e
        cases e)
    have hM : Mod K mg (hidT s₁.heap H) := ⟨hKb, nsK hns, ⟨mb, nsK hb, hbb⟩, let ⟨mc, h1, h2⟩ := hlim; ⟨mc, nsK h1, h2⟩⟩
    have e0 : Env0 P w K mg (hidT s₁.heap H) callerA [] s₁ H := ⟨rfl, hM, fun b o e => of_hidT e, Nat.le_of_eq (hidT_size _ _), trivial, fun b hb => absurd (show b ∈ ([] : List Addr) from hb) (by simp), hok, .of_eq hg⟩
    refine codeAny_mono ((F _ hKb (nsK hns)).run callerA [] s₁ H ⟨[.ref a], []⟩ [.ref a] [.ref a] _ _ hr rfl e0 (hbind s₁ (.ref a)) (.cons rfl .nil) (hsp H hO hS)) fun r s' h => ?_
    cases r with
    | error e => exact (show False from h).elim
    | ok fl =>
      cases fl with
      | next => exact False.elim h
      | brk => exact False.elim h
      | cont => exact False.elim h
      | ret u =>
        obtain ⟨v, H', os, bare, un, hok', r', q⟩ := h
        obtain rfl : v = .bl true := q
        obtain rfl : u = Value.bool true := r'
        refine ⟨rfl, PySem.OldK.of_keep fun b o e => ?_, os, bare⟩
        cases q : H b with
        | none => exact un.keep b o e q (fun z => nomatch (show b ∈ ([] : List Addr) from z)) (by simp)
        | some u =>
          rcases hO b with z | ⟨ob, xs, z⟩
          · rw [q] at z; cases z
          · obtain ⟨e1, _⟩ := hok b _ z
            obtain ⟨e2, _⟩ := hok' b _ (un.frzs b ob _ z)
            rw [e] at e1
            cases e1
            exact e2
  cases hk : K.lookup a with
  | some o =>
    have e := KX a o hk
    rw [ha] at e
    cases e
    exact core (fun _ => none) (fun _ => .inl rfl) (.inr ⟨_, vs.toArray, _, hk, rfl, rfl, rfl, by rw [List.size_toArray, hi.length]; exact hl, by simpa using rv⟩) (fun b u z => nomatch (show (none : Option HO) = some u from z)) (fun b z => absurd rfl z) fun z => absurd rfl z
  | none =>
    have at_ : ∀ b, (if b = a then some (HO.frz { cls := .type "list", data := .seq vs.toArray } (.lst (ns.map V.int))) else none) = none ∨ b = a := fun b => by
      by_cases hb : b = a
      · exact .inr hb
      · exact .inl (if_neg hb)
    refine core (fun b => if b = a then some (.frz { cls := .type "list", data := .seq vs.toArray } (.lst (ns.map V.int))) else none) (fun b => ?_) (.inl (.inr ⟨{ cls := .type "list", data := .seq vs.toArray }, if_pos rfl⟩)) (fun b u z => ?_) (fun b z => (at_ b).resolve_left z) fun _ => hk
    · rcases at_ b with h | h
      · exact .inl h
      · exact .inr ⟨_, _, if_pos h⟩
    · rcases at_ b with h | h
      · exact nomatch (h.symm.trans z)
      · subst h
        have z' := (if_pos rfl).symm.trans z
        cases z'
        exact ⟨ha, by rw [List.length_map]; exact hl, vs, _, rv, ha⟩
theorem walk_ofG {l : PySem.W.OpenLaw} {n k : Nat} {q : Program} {loose : List Str} {XP : (Str → Option Value) → Heap → Prop} {YP : World → Heap → Prop} {d : DefRec} {K : Params → PySem.W.Frag} {sp : World → Sp} {x : Str}
    (hn : l.most = some n) (hn2 : n ≤ sizeLine) (hdf : d.params.defaults = []) (hr : Room k callerA)
    (hY : ∀ (w : World) (h : Heap), YP w h → (K w.params).In h)
    (F : ∀ (w : World) (mg : Str → Option Value) (fa : Addr) (h : Heap), (K w.params).In h → h.Ns mainGlobals mg → mg d.name = some (.ref fa) →
      ∃ fd : FuncData, (∀ (s : Shared) (u : Value), BindsTo s fd ⟨[u], []⟩ [(x, u)]) ∧
        ∀ base : Heap, (K w.params).In base → base.Ns mainGlobals mg → FnG l.prog w (K w.params) mg base k fa fd [x] (sp w))
    (hsp : ∀ (w : World) (H : Hp) (a : Addr) (ns : List Int), ns.length ≤ n → Only H → SqL (K w.params) H a (ns.map V.int) → sp w [.ref a] H (fun v _ => v = .bl true) fun _ _ _ => False) :
    PySem.W.WalkO q loose XP YP l.row.toRowW d [] (fun f vs => PySem.call f vs) := by
  refine Att.attach_call hn hdf fun w s₀ s₁ mg mb fa o pm cd doc a vs ns G Y ho hd hcd hmg hobj hints hlen hg => ?_
  obtain ⟨fd, hb, hF⟩ := F w mg fa _ (hY w _ Y) G.T.g hmg
  exact law_callG (hY w _ Y) G.T.g G.T.b G.T.builtins G.T.nolimit hg hobj hints (Nat.le_trans hlen hn2) hr hF hb (fun H hO hS => hsp w H a ns hlen hO hS)
end Nw

/-! Sk6: the layer's rules over the new machine rules. -/
namespace Sk
open PySem PySem.Spec PyProof.Rows L2
section
variable {B : Bs} {K : PySem.W.Frag} {ρ : Sl} {O F : Cs} {Φ Ψ : Kn → Cs → Prop} {ta tb tc te : TE} {tt tu : TT} {as : TA} {k x y : Kn} {i : Nat} {H : Hp} {σ : L2.St} {τ : List (V × Kn)} {p : Addr} {c c' : Cell}
section
variable {Λ : List Kn → Cs → Cs → Prop}

/-! ### walks -/
/-- numbered -/
def numD (ds : List PyData) : List PyData := (List.range ds.length).zipWith (fun (i : Nat) d => .tuple [.int (i : Int), d]) ds
theorem numD_at {ds : List PyData} {i : Nat} : (numD ds)[i]? = ds[i]?.map fun d => .tuple [.int (i : Int), d] := by
  unfold numD
  rw [List.getElem?_zipWith]
  by_cases h : i < ds.length
  · rw [List.getElem?_eq_getElem (by simpa using h), List.getElem?_eq_getElem h]
    simp
  · rw [List.getElem?_eq_none (l := ds) (by omega), List.getElem?_eq_none (by simpa using h)]
    rfl
theorem numD_len {ds : List PyData} : (numD ds).length = ds.length := by simp [numD]
theorem aw_enum {a : Addr} {ds : List PyData} : AWalk B (Nw.IteT K a) ((numD ds).map Kn.dat) [] [(V.ref a, Kn.dat (.tuple ds))] := fun H σ ρ O τ R _ => by
  have hv : Dt H (.ref a) (.tuple ds) := R.tmp (V.ref a, Kn.dat (.tuple ds)) (by simp)
  cases hv with
  | @tup _ xs _ e dl =>
    have hl := dl.length
    rw [List.length_map, numD_len]
    refine ⟨fun i hi => ⟨xs, xs[i]'(by omega), SqT.of e, by simp [show i < xs.length by omega]⟩, ⟨xs, SqT.of e, hl⟩, fun i k x H' hk y => ?_⟩
    obtain ⟨T, u, rfl, hT, rfl, y⟩ := y
    rw [List.getElem?_map, numD_at] at hk
    cases hd : ds[i]? with
    | none => rw [hd] at hk; cases hk
    | some d =>
      rw [hd] at hk
      cases hk
      obtain ⟨v, h1, h2⟩ := dl.get hd
      have h3 := y xs (SqT.of e)
      rw [h1] at h3
      cases h3
      exact (R.new _ hT).push (.tup upd_same (.cons (.int _) (.cons (h2.grow (S := []) (.new hT) (fun _ z => nomatch z)) .nil)))
theorem ei_enum (h : EvA B as ρ O fun ks O1 => ∃ ds, ks = [.dat (.tuple ds)] ∧ Λ ((numD ds).map Kn.dat) [] O1) : EvI B (Nw.iEnumT K as) ρ O Λ := fun σ H τ F R Q hQ =>
  h σ H τ F R _ fun vs H1 ks O1 ⟨ds, e, q⟩ hl R1 => by
    subst e
    match vs, hl with
    | [v], _ =>
      have hv : Dt H1 v (.tuple ds) := R1.tmp (v, .dat (.tuple ds)) (by simp)
      cases hv with
      | @tup a xs _ e dl => exact ⟨a, xs, rfl, SqT.of e, hQ _ H1 _ _ O1 [(V.ref a, Kn.dat (.tuple ds))] q R1 aw_enum⟩
/-- the pairs of two rows -/
def zipD (ds es : List PyData) : List PyData := ds.zipWith (fun d e => .tuple [d, e]) es
theorem aw_zipT {a b : Addr} {ds es : List PyData} (hl : ds.length = es.length) : AWalk B (RZ.ItzT K a b) ((zipD ds es).map Kn.dat) [] [(V.ref a, Kn.dat (.tuple ds)), (V.ref b, Kn.dat (.tuple es))] := fun H σ ρ O τ R _ => by
  have hv : Dt H (.ref a) (.tuple ds) := R.tmp (V.ref a, Kn.dat (.tuple ds)) (by simp)
  have hw : Dt H (.ref b) (.tuple es) := R.tmp (V.ref b, Kn.dat (.tuple es)) (by simp)
  cases hv with
  | @tup _ xs _ e dl =>
  cases hw with
  | @tup _ ys _ e2 dl2 =>
    have l1 := dl.length
    have l2 := dl2.length
    have l3 : (zipD ds es).length = ds.length := by simp [zipD, hl]
    rw [List.length_map, l3]
    refine ⟨fun i hi => ⟨xs, ys, xs[i]'(by omega), ys[i]'(by omega), SqT.of e, SqT.of e2, by simp [show i < xs.length by omega], by simp [show i < ys.length by omega]⟩, ⟨xs, ys, SqT.of e, SqT.of e2, .inl (by omega)⟩, fun i k x H' hk y => ?_⟩
    obtain ⟨T, u, u2, rfl, hT, rfl, y1, y2⟩ := y
    rw [List.getElem?_map] at hk
    unfold zipD at hk
    rw [List.getElem?_zipWith] at hk
    cases hd : ds[i]? with
    | none => rw [hd] at hk; cases hk
    | some d =>
      cases he : es[i]? with
      | none => rw [hd, he] at hk; cases hk
      | some d2 =>
        rw [hd, he] at hk
        cases hk
        obtain ⟨v, h1, h2⟩ := dl.get hd
        obtain ⟨v2, h3, h4⟩ := dl2.get he
        have z1 := y1 xs (SqT.of e)
        have z2 := y2 ys (SqT.of e2)
        rw [h1] at z1
        rw [h3] at z2
        cases z1
        cases z2
        exact (R.new _ hT).push (.tup upd_same (.cons (h2.grow (S := []) (.new hT) (fun _ z => nomatch z)) (.cons (h4.grow (S := []) (.new hT) (fun _ z => nomatch z)) .nil)))
theorem ei_zipT (h : EvA B as ρ O fun ks O1 => ∃ ds es, ks = [.dat (.tuple ds), .dat (.tuple es)] ∧ ds.length = es.length ∧ Λ ((zipD ds es).map Kn.dat) [] O1) : EvI B (RZ.iZipA K as) ρ O Λ := fun σ H τ F R Q hQ =>
  h σ H τ F R _ fun vs H1 ks O1 ⟨ds, es, e, hl0, q⟩ hl R1 => by
    subst e
    match vs, hl with
    | [v, w], _ =>
      have hv : Dt H1 v (.tuple ds) := R1.tmp (v, .dat (.tuple ds)) (by simp)
      have hw : Dt H1 w (.tuple es) := R1.tmp (w, .dat (.tuple es)) (by simp)
      cases hv with
      | @tup a xs _ e dl =>
      cases hw with
      | @tup b ys _ e2 dl2 => exact ⟨a, b, xs, ys, rfl, .inr ⟨SqT.of e, SqT.of e2, hQ _ H1 _ _ O1 [(V.ref a, Kn.dat (.tuple ds)), (V.ref b, Kn.dat (.tuple es))] q R1 (aw_zipT hl0)⟩⟩
/-- a tuple and a list of owned objects -/
theorem aw_zipTL {a b : Addr} {ds : List PyData} {ps : List Addr} (hl : ds.length = ps.length) : AWalk B (Nw.ItzTL K a b) (ds.zipWith (fun d q => Kn.pair (.dat d) (.ptr q)) ps) [(b, .lps ps)] [(V.ref a, Kn.dat (.tuple ds))] := fun H σ ρ O τ R hn => by
  have hv : Dt H (.ref a) (.tuple ds) := R.tmp (V.ref a, Kn.dat (.tuple ds)) (by simp)
  have e2 : H b = some (.lst (ps.map V.ref)) := R.cell (b, .lps ps) (hn _ (by simp))
  cases hv with
  | @tup _ xs _ e dl =>
    have l1 := dl.length
    have l3 : (ds.zipWith (fun d q => Kn.pair (.dat d) (.ptr q)) ps).length = ds.length := by simp [hl]
    rw [l3]
    refine ⟨fun i hi => ⟨xs, _, xs[i]'(by omega), .ref (ps[i]'(by omega)), SqT.of e, SqL.of e2, by simp [show i < xs.length by omega], by simp [show i < ps.length by omega]⟩, ⟨xs, _, SqT.of e, SqL.of e2, l1, by simp [hl]⟩, fun i k x H' hk y => ?_⟩
    obtain ⟨T, u, u2, rfl, hT, rfl, y1, y2⟩ := y
    rw [List.getElem?_zipWith] at hk
    cases hd : ds[i]? with
    | none => rw [hd] at hk; cases hk
    | some d =>
      cases he : ps[i]? with
      | none => rw [hd, he] at hk; cases hk
      | some d2 =>
        rw [hd, he] at hk
        cases hk
        obtain ⟨v, h1, h2⟩ := dl.get hd
        have z1 := y1 xs (SqT.of e)
        have z2 := y2 _ (SqL.of e2)
        rw [h1] at z1
        rw [List.getElem?_map, he] at z2
        cases z1
        cases z2
        exact (R.new _ hT).push ⟨T, _, .ref d2, rfl, upd_same, h2.grow (S := []) (.new hT) (fun _ z => nomatch z), rfl⟩
theorem ei_zipTL (h : EvA B as ρ O fun ks O1 => ∃ ds b ps, ks = [.dat (.tuple ds), .ptr b] ∧ (b, Cell.lps ps) ∈ O1 ∧ ds.length = ps.length ∧ Λ (ds.zipWith (fun d q => Kn.pair (.dat d) (.ptr q)) ps) [(b, .lps ps)] O1) : EvI B (Nw.iZipTL K as) ρ O Λ := fun σ H τ F R Q hQ =>
  h σ H τ F R _ fun vs H1 ks O1 ⟨ds, b, ps, e, hm, hl0, q⟩ hl R1 => by
    subst e
    match vs, hl with
    | [v, w], _ =>
      have hv : Dt H1 v (.tuple ds) := R1.tmp (v, .dat (.tuple ds)) (by simp)
      have hw : w = .ref b := R1.tmp (w, .ptr b) (by simp)
      subst hw
      have e2 : H1 b = some (.lst (ps.map V.ref)) := R1.cell (b, .lps ps) (List.mem_append_left _ hm)
      cases hv with
      | @tup a xs _ e dl => exact ⟨a, b, xs, _, rfl, SqT.of e, SqL.of e2, hQ _ H1 _ _ O1 [(V.ref a, Kn.dat (.tuple ds))] q (R1.sub (by intro z hz; simp at hz ⊢; rcases hz with h | h <;> simp [h])) (aw_zipTL hl0)⟩
theorem PD.get {ws : List (List Key × V)} {kvs : List (Tk × PyData)} {i : Nat} {kv : Tk × PyData} (h : PD H ws kvs) (e : kvs[i]? = some kv) : ∃ v, ws[i]? = some (kI kv.1, v) ∧ Dt H v kv.2 := by
  induction h generalizing i with
  | nil => simp at e
  | cons q t ih =>
    cases i with
    | zero =>
      simp at e
      subst e
      exact ⟨_, by rw [← q.1]; rfl, q.2⟩
    | succ i => simpa using ih (i := i) (by simpa using e)
theorem aw_keys {d : Addr} {od : Obj} {ws : List (List Key × V)} {kvs : List (Tk × PyData)} : AWalk B (Itkt d od ws) (kvs.map fun kv => Kn.dat (tupI kv.1)) [(d, .fz od ws kvs)] [] := fun H σ ρ O τ R hn => by
  obtain ⟨e, pd⟩ := R.cell (d, .fz od ws kvs) (hn _ (by simp))
  have hl := pd.length
  rw [List.length_map]
  refine ⟨fun i hi => ⟨e, by omega⟩, ⟨e, by omega⟩, fun i k x H' hk y => ?_⟩
  obtain ⟨rfl, kk, v, q, h1, rfl, h2⟩ := y
  rw [List.getElem?_map] at hk
  cases hd : kvs[i]? with
  | none => rw [hd] at hk; cases hk
  | some kv =>
    rw [hd] at hk
    cases hk
    obtain ⟨v', h3, h4⟩ := pd.get hd
    rw [h1] at h3
    cases h3
    exact R.push (Dt.ofKey h2)
/-- the dict is locked as it is walked -/
theorem Rs.lockC {kvs : List (Tk × PyData)} {ws : List (List Key × V)} {od : Obj} {j : Nat} (R : Rs B H σ ρ (O ++ F) τ) (h : O[j]? = some (p, .dic kvs)) (e : H p = some (.dT ws)) (pd : PD H ws kvs) : Rs B (upd H p (.frz od (.dT ws))) σ ρ (O.set j (p, .fz od ws kvs) ++ F) τ := by
  have gr : Grow [p] H (upd H p (.frz od (.dT ws))) := .put (by simp)
  have nt : NoT [p] H := fun s hs xs z => by
    simp at hs; subst hs; rw [e] at z; cases z
  exact R.setC h (c' := .fz od ws kvs) ⟨upd_same, PD.grow gr nt pd⟩
theorem ei_keys {td : TE} (h : Ev B td ρ O fun x O1 => ∃ p kvs j, x = .ptr p ∧ ((O1[j]? = some (p, Cell.dic kvs) ∧ ∀ od ws, Λ (kvs.map fun kv => Kn.dat (tupI kv.1)) [(p, .fz od ws kvs)] (O1.set j (p, .fz od ws kvs))) ∨
    ∃ od ws, (p, Cell.fz od ws kvs) ∈ O1 ∧ Λ (kvs.map fun kv => Kn.dat (tupI kv.1)) [(p, .fz od ws kvs)] O1)) : EvI B (Nw.iKeysF td) ρ O Λ := fun σ H τ F R Q hQ =>
  h σ H τ F R _ fun v H1 k O1 ⟨p, kvs, j, e, q⟩ R1 => by
    subst e
    have hv : v = .ref p := R1.top
    rcases q with ⟨hj, q⟩ | ⟨od, ws, hm, q⟩
    · obtain ⟨ws, ew, pd⟩ := R1.cellAt hj
      exact ⟨p, hv, .inl ⟨ws, ew, fun od => hQ _ _ _ _ _ [] (q od ws) ((R1.pop).lockC hj ew pd) aw_keys⟩⟩
    · obtain ⟨ew, pd⟩ := R1.cell _ (List.mem_append_left _ hm)
      exact ⟨p, hv, .inr ⟨od, ws, ew, hQ _ _ _ _ _ [] q R1.pop aw_keys⟩⟩
theorem aw_items {d : Addr} {od : Obj} {ws : List (List Key × V)} {kvs : List (Tk × PyData)} : AWalk B (Nw.ItiT d od ws) (kvs.map fun kv => Kn.dat (.tuple [tupI kv.1, kv.2])) [(d, .fz od ws kvs)] [] := fun H σ ρ O τ R hn => by
  obtain ⟨e, pd⟩ := R.cell (d, .fz od ws kvs) (hn _ (by simp))
  have hl := pd.length
  rw [List.length_map]
  refine ⟨fun i hi => ⟨e, by omega⟩, ⟨e, by omega⟩, fun i k x H' hk y => ?_⟩
  obtain ⟨T, q, kk, v, h1, rfl, hT, h2, rfl⟩ := y
  rw [List.getElem?_map] at hk
  cases hd : kvs[i]? with
  | none => rw [hd] at hk; cases hk
  | some kv =>
    rw [hd] at hk
    cases hk
    obtain ⟨v', h3, h4⟩ := pd.get hd
    rw [h1] at h3
    cases h3
    exact (R.new _ hT).push (.tup upd_same (.cons ((Dt.ofKey h2).grow (S := []) (.new hT) (fun _ z => nomatch z)) (.cons (h4.grow (S := []) (.new hT) (fun _ z => nomatch z)) .nil)))
theorem ei_items {td : TE} (h : Ev B td ρ O fun x O1 => ∃ p kvs j, x = .ptr p ∧ O1[j]? = some (p, Cell.dic kvs) ∧ ∀ od ws, Λ (kvs.map fun kv => Kn.dat (.tuple [tupI kv.1, kv.2])) [(p, .fz od ws kvs)] (O1.set j (p, .fz od ws kvs))) : EvI B (Nw.iItemsF td) ρ O Λ := fun σ H τ F R Q hQ =>
  h σ H τ F R _ fun v H1 k O1 ⟨p, kvs, j, e, hj, q⟩ R1 => by
    subst e
    have hv : v = .ref p := R1.top
    obtain ⟨ws, ew, pd⟩ := R1.cellAt hj
    exact ⟨p, ws, hv, ew, fun od => hQ _ _ _ _ _ [] (q od ws) ((R1.pop).lockC hj ew pd) aw_items⟩
end

/-! ### built-ins over dicts and rows of int tuples -/
theorem tups_dtl : ∀ {vs : List V} {ks : List Tk}, Nw.TupsAt H vs ks → DtL H vs (ks.map tupI)
  | _, _, .nil => .nil
  | _, _, .cons ⟨a, e, h⟩ t => by
    subst e
    exact .cons (.tup h (DtL.of_ints _)) (tups_dtl t)
theorem dtl_tups : ∀ {vs : List V} {ks : List Tk}, DtL H vs (ks.map tupI) → Nw.TupsAt H vs ks
  | _, [], .nil => .nil
  | _, k :: ks, .cons h t => by
    unfold tupI at h
    cases h with
    | tup e dl =>
      rw [dl.ints] at e
      exact .cons ⟨_, rfl, e⟩ (dtl_tups t)
/-- a list of tuples of ints, or a dict with such keys -/
inductive Tks (O : Cs) : Kn → List Tk → Prop
  | lst {p : Addr} {ks : List Tk} : (p, Cell.lst (ks.map tupI)) ∈ O → Tks O (.ptr p) ks
  | dk {k : Kn} {kvs : List (Tk × PyData)} : Dk O k kvs → Tks O k (kvs.map (·.1))
theorem pd_keys {ws : List (List Key × V)} {kvs : List (Tk × PyData)} (h : PD H ws kvs) : ws.map (·.1) = (kvs.map (·.1)).map fun k => k.map Sum.inl := by
  induction h with
  | nil => rfl
  | cons q t ih => rw [List.map_cons, List.map_cons, List.map_cons, ih, q.1]
theorem oc_sorted {ks : List Tk} {n : Nat} (hx : Tks O x ks) (hn : ∀ k ∈ ks, k.length = n) (h0 : n ≠ 0 ∨ ks.length ≤ 1) (q : ∀ p, Φ (.ptr p) ((p, .lst ((Nw.sortI ks).map tupI)) :: O)) : OpC B (Nw.rSortT K) [x] O Φ := fun σ ρ H τ F vs hl hv R Q hQ => by
  match vs, hl with
  | [v], _ =>
    have fin : ∀ a, v = .ref a → ((∃ vs, H a = some (.lst vs) ∧ Nw.TupsAt H vs ks) ∨ (∃ ws : List (List Key × V), Rd H a (.dT ws) ∧ ws.map (·.1) = ks.map fun k => k.map Sum.inl)) → Nw.rSortT K [v] H Q := fun a e src => by
      refine ⟨a, ks, n, by rw [e], src, hn, h0, fun p bs hp tb => ?_⟩
      exact hQ _ _ _ _ (q p) ((R.lay (c := .lst ((Nw.sortI ks).map tupI)) (.lst bs) hp ⟨bs, upd_same, (tups_dtl tb).grow (S := []) (.new hp) (fun _ z => nomatch z)⟩).push rfl)
    cases hx with
    | lst hm =>
      obtain ⟨ws, ew, dl⟩ := R.cell _ (List.mem_append_left _ hm)
      exact fin _ (hv (v, .ptr _) (by simp)) (.inl ⟨ws, ew, dtl_tups dl⟩)
    | dk hd =>
      obtain ⟨p, ws, e1, rd, pd⟩ := R.dk hd (hv (v, x) (by simp))
      exact fin p e1 (.inr ⟨ws, rd, pd_keys pd⟩)
theorem oc_tupleD {kvs : List (Tk × PyData)} (hx : Dk O x kvs) (q : Φ (.dat (.tuple (kvs.map fun kv => tupI kv.1))) O) : OpC B (fun xs H Q => ∃ (d : Addr) (ws : List (List Key × V)) (ks : List (List Int)), xs = [.ref d] ∧ Rd H d (.dT ws) ∧ ws.map (·.1) = ks.map (fun k => k.map Sum.inl) ∧
    ∀ p bs, H p = none → Nw.TupsAt H bs ks → Q (.ref p) (upd H p (.tup bs))) [x] O Φ := fun σ ρ H τ F vs hl hv R Q hQ => by
  match vs, hl with
  | [v], _ =>
    obtain ⟨d, ws, e1, rd, pd⟩ := R.dk hx (hv (v, x) (by simp))
    refine ⟨d, ws, kvs.map (·.1), by rw [show v = _ from e1], rd, pd_keys pd, fun p bs hp tb => hQ _ _ _ _ q ((R.new _ hp).push (.tup upd_same ?_))⟩
    have := (tups_dtl tb).grow (S := []) (H' := upd H p (.tup bs)) (.new hp) (fun _ z => nomatch z)
    rw [List.map_map] at this
    exact this
theorem oc_listD {kvs : List (Tk × PyData)} (hx : Dk O x kvs) (q : ∀ p, Φ (.ptr p) ((p, .lst (kvs.map fun kv => tupI kv.1)) :: O)) : OpC B (fun xs H Q => ∃ d kvs, xs = [V.ref d] ∧ Rd H d (.dT kvs) ∧ ∀ p bs, H p = none → IsKeys H kvs bs → Q (.ref p) (upd H p (.lst (bs.map V.ref)))) [x] O Φ := fun σ ρ H τ F vs hl hv R Q hQ => by
  match vs, hl with
  | [v], _ =>
    obtain ⟨d, ws, e1, rd, pd⟩ := R.dk hx (hv (v, x) (by simp))
    refine ⟨d, ws, by rw [show v = _ from e1], rd, fun p bs hp kb => hQ _ _ _ _ (q p) ((R.lay (c := .lst (kvs.map fun kv => tupI kv.1)) (.lst (bs.map V.ref)) hp ⟨_, upd_same, DtL.grow (S := []) (.new hp) (fun _ z => nomatch z) ?_⟩).push rfl)⟩
    clear q rd hx
    induction kb generalizing kvs with
    | nil =>
      cases pd
      exact .nil
    | cons h t ih =>
      cases pd with
      | cons q1 pd =>
        refine .cons ?_ (ih pd)
        have h := h
        rw [q1.1] at h
        exact Dt.ofKey h
/-- repr of data -/
theorem oc_repr {d : PyData} (hx : Da O x d) (hs : d.showable = true) (hd : d.hasDict = false) (h1 : d.depth ≤ 60) (h2 : d.shown.length ≤ sizeLine) (hr : ∀ (v : V) (H : Hp), x.h H v → ∃ a, v = .ref a) (q : Φ (.dat (.str d.shown)) O) :
    OpC B (fun xs H Q => ∃ (a : Addr) (d : PyData), xs = [.ref a] ∧ Dp K H (.ref a) d ∧ d.showable = true ∧ d.hasDict = false ∧ d.depth ≤ 60 ∧ d.shown.length ≤ sizeLine ∧ Q (.str d.shown) H) [x] O Φ := fun σ ρ H τ F vs hl hv R Q hQ => by
  match vs, hl with
  | [v], _ =>
    have hv := hv (v, x) (by simp)
    have dp : Dp K H v d := R.dp hx.app hv
    obtain ⟨a, rfl⟩ := hr v H hv
    exact ⟨a, d, rfl, dp, hs, hd, h1, h2, hQ _ _ _ _ q (R.push (.str _))⟩
theorem zip_pd : ∀ {ks : List Tk} {es : List PyData} {ys : List V}, ks.length = es.length → DtL H ys es → PD H ((ks.map fun k => k.map Sum.inl).zip ys) (ks.zip es)
  | [], _, _, _, _ => .nil
  | _ :: _, [], _, hl, _ => by simp at hl
  | k :: ks, e :: es, _, hl, .cons h t => .cons ⟨rfl, h⟩ (zip_pd (by simpa using hl) t)
/-- dict(zip(t, u)) -/
theorem ev_dictZip (h : EvA B as ρ O fun kn O1 => ∃ (ks : List Tk) (es : List PyData), kn = [.dat (.tuple (ks.map tupI)), .dat (.tuple es)] ∧ ks.length = es.length ∧ ks.Nodup ∧ ∀ p, Φ (.ptr p) ((p, .dic (ks.zip es)) :: O1)) : Ev B (Nw.tDictZipT K as) ρ O Φ := fun σ H τ F R Q hQ =>
  h σ H τ F R _ fun vs H1 kn O1 ⟨ks, es, e, hl0, hnd, q⟩ hl R1 => by
    subst e
    match vs, hl with
    | [v, w], _ =>
      have hv : Dt H1 v (.tuple (ks.map tupI)) := R1.tmp (v, Kn.dat (.tuple (ks.map tupI))) (by simp)
      have hw : Dt H1 w (.tuple es) := R1.tmp (w, Kn.dat (.tuple es)) (by simp)
      have R2 : Rs B H1 σ ρ (O1 ++ F) τ := R1.sub fun q hq => List.mem_append_right _ hq
      cases hv with
      | @tup a xs _ e dl =>
      cases hw with
      | @tup b ys _ e2 dl2 =>
        have l1 := dl.length
        have l2 := dl2.length
        rw [List.length_map] at l1
        refine ⟨a, b, xs, ys, ks, rfl, SqT.of e, dtl_tups dl, hnd, SqT.of e2, by omega, fun p hp => hQ _ _ _ _ (q p) ((R2.lay (c := .dic (ks.zip es)) _ hp ⟨_, upd_same, PD.grow (S := []) (.new hp) (fun _ z => nomatch z) ?_⟩).push rfl)⟩
        exact zip_pd hl0 dl2
/-! ### dicts: setdefault, a display of one pair, a comprehension -/
theorem ev_bmD {r : V → List V → Hp → VK → Prop} (h : Ev B ta ρ O fun x O1 => (∃ p kvs, x = .ptr p ∧ (p, Cell.dic kvs) ∈ O1) ∧ EvA B as ρ O1 fun ks O2 => OpM B r x ks O2 Φ) : Ev B (tBM K "dict" r ta as) ρ O Φ := fun σ H τ F R Q hQ =>
  h σ H τ F R _ fun v H1 x O1 ⟨⟨p, kvs, e, hm⟩, h2⟩ R1 => by
    subst e
    have hv : v = .ref p := R1.top
    obtain ⟨ws, ew, pd⟩ := R1.cell _ (List.mem_append_left _ hm)
    refine ⟨by subst hv; exact .inr (.inr (.inl ⟨rfl, .inr ⟨_, ew⟩⟩)), h2 σ H1 _ F R1 _ fun vs H2 ks O2 hr hl R2 =>
      hr σ ρ H2 τ F v vs (R2.tmp (v, .ptr p) (by simp)) hl (fun q hq => R2.tmp q (List.mem_append_left _ hq)) (R2.sub fun q hq => by simp [hq]) Q hQ⟩
/-- what setdefault leaves -/
def putD (kvs : List (Tk × PyData)) (k : Tk) (d : PyData) : List (Tk × PyData) := match look kvs k with
  | some _ => kvs
  | none => put kvs k d
theorem om_setdef {kvs : List (Tk × PyData)} {ns : Tk} {d : PyData} {j : Nat} (hj : O[j]? = some (p, Cell.dic kvs)) (hz : kvs.length < 100000) (q : ∀ d', Φ (.dat d') (O.set j (p, .dic (putD kvs ns d)))) : OpM B Nw.rSetdT (.ptr p) [.dat (tupI ns), .dat d] O Φ := fun σ ρ H τ F v vs hx hl hv R Q hQ => by
  match vs, hl with
  | [w, u], _ =>
    have hw : Dt H w (tupI ns) := hv (w, Kn.dat (tupI ns)) (by simp)
    have hu : Dt H u d := hv (u, .dat d) (by simp)
    obtain ⟨b, rfl⟩ := hw.isRef
    obtain ⟨ws, ew, pd⟩ := R.cellAt hj
    have lk := PD.look ns pd
    refine ⟨p, b, ws, kI ns, u, hx, rfl, ew, hw.tupI, by rw [pd.length]; exact Nat.lt_of_lt_of_le hz (by decide), fun u' e => ?_, fun e => ?_⟩
    · cases hlk : look kvs ns with
      | none => rw [lk.1 hlk] at e; cases e
      | some d' =>
        obtain ⟨v', h1, h2⟩ := lk.2 d' hlk
        rw [h1] at e
        cases e
        refine hQ _ _ _ _ (q d') (Rs.push ?_ h2)
        unfold putD
        rw [hlk]
        have : O.set j (p, .dic kvs) = O := by
          apply List.ext_getElem?
          intro i
          by_cases hij : j = i
          · subst hij
            rw [List.getElem?_set_self (List.getElem?_eq_some_iff.mp hj).1, hj]
          · rw [List.getElem?_set_ne hij]
        rw [this]
        exact R
    · cases hlk : look kvs ns with
      | some d' =>
        obtain ⟨v', h1, h2⟩ := lk.2 d' hlk
        rw [h1] at e
        cases e
      | none =>
        have gr : Grow [p] H (upd H p (.dT (putK ws (kI ns) u))) := .put (by simp)
        have nt : NoT [p] H := fun s hs xs e => by
          simp at hs; subst hs; rw [ew] at e; cases e
        have q := q d
        unfold putD at q
        rw [hlk] at q
        exact hQ _ _ _ _ q (Rs.push (R.setC hj (c' := .dic (put kvs ns d)) ⟨_, upd_same, PD.grow gr nt (PD.put hu pd)⟩) (hu.grow gr nt))
theorem ev_disp (h : ∀ p, Ev B ta ρ ((p, .dic []) :: O) fun x O1 => Ev B tb ρ O1 fun y O2 => ∃ ns d j, x = .dat (tupI ns) ∧ y = .dat d ∧ O2[j]? = some (p, .dic []) ∧ Φ (.ptr p) (O2.set j (p, .dic [(ns, d)]))) : Ev B (Nw.tDispT ta tb) ρ O Φ := fun σ H τ F R Q hQ p hp =>
  h p σ _ τ F (R.lay (c := .dic []) (.dT []) hp ⟨[], upd_same, .nil⟩) _ fun v H1 x O1 h1 R1 => h1 σ H1 _ F R1 _ fun w H2 y O2 ⟨ns, d, j, e1, e2, hj, q⟩ R2 => by
    subst e1 e2
    have hv : Dt H2 v (tupI ns) := R2.tmp (v, Kn.dat (tupI ns)) (by simp)
    have hw : Dt H2 w d := R2.top
    obtain ⟨b, rfl⟩ := hv.isRef
    obtain ⟨ws, ew, pd⟩ := R2.cellAt hj
    cases pd
    have gr : Grow [p] H2 (upd H2 p (.dT [(kI ns, w)])) := .put (by simp)
    have nt : NoT [p] H2 := fun s hs xs e => by
      simp at hs; subst hs; rw [ew] at e; cases e
    exact ⟨b, kI ns, rfl, ew, hv.tupI, hQ _ _ _ _ q (Rs.push ((R2.pop.pop).setC hj (c' := .dic [(ns, d)]) ⟨_, upd_same, .cons ⟨rfl, hw.grow gr nt⟩ .nil⟩) rfl)⟩
/-- a dict comprehension -/
theorem ev_dcT {wi : TI} {g : TG} {tk tv : TE} {vs : List Nat} (h : EvI B wi ρ O fun items need O1 => ∃ I : Nat → List (Tk × PyData) → Cs → Prop, I 0 [] O1 ∧ (∀ i acc O', i ≤ items.length → I i acc O' → acc.length < 100000 ∧ ∀ q ∈ need, q ∈ O') ∧
    (∀ i k acc O', items[i]? = some k → I i acc O' → Tg B g k (forget ρ vs) O' fun ρ2 O2 => EvT B tt ρ2 O2 fun b O3 => (b = true → Ev B tk ρ2 O3 fun y O4 => ∃ ns, y = .dat (tupI ns) ∧ Ev B tv ρ2 O4 fun z O5 => ∃ d O6, z = .dat d ∧ Sub O6 O5 ∧ I (i + 1) (put acc ns d) O6) ∧ (b = false → ∃ O5, Sub O5 O3 ∧ I (i + 1) acc O5)) ∧
    ∀ acc O', I items.length acc O' → ∀ p, Φ (.ptr p) ((p, .dic acc) :: O'))
    (hg : Own g vs) : Ev B (Nw.tDcT wi g tt tk tv vs) ρ O Φ := fun σ H τ F R Q hQ =>
  h σ H τ F R _ fun J H1 items need O1 τ0 ⟨I, i0, iG, step, done⟩ R1 Wk => fun D hD => by
    refine ⟨fun i m H' => m = items.length - i ∧ i ≤ items.length ∧ ∃ acc O', I i acc O' ∧ Rs B H' σ ρ ((D, .dic acc) :: (O' ++ F)) (τ0 ++ τ), ⟨_, rfl, Nat.zero_le _, [], O1, i0, R1.lay (c := .dic []) (.dT []) hD ⟨[], upd_same, .nil⟩⟩, ?_⟩
    rintro i m H' ⟨rfl, hi, acc, O', hI, R'⟩
    obtain ⟨go, stop, yld⟩ := Wk H' σ ρ _ τ R' (fun q hq => List.mem_cons_of_mem _ (List.mem_append_left _ ((iG i acc O' hi hI).2 q hq)))
    by_cases hlt : i < items.length
    · refine .inr ⟨go i hlt, fun H2 => ∃ acc2 O2, I (i + 1) acc2 O2 ∧ Rs B H2 σ ρ ((D, .dic acc2) :: (O2 ++ F)) (τ0 ++ τ), fun H2 ⟨acc2, O2, h2, R2⟩ => ⟨items.length - (i + 1), by omega, rfl, hlt, acc2, O2, h2, R2⟩, fun x H2 y => ?_⟩
      have hk : items[i]? = some items[i] := List.getElem?_eq_getElem hlt
      have Ry := yld i _ x H2 hk y
      have pm : ∀ (c : Cell) (O2 : Cs), ((D, c) :: (O2 ++ F)).Perm (O2 ++ ((D, c) :: F)) := fun c O2 => List.perm_middle.symm
      have hg' := hg x (wipe σ vs) H2
      simp only [wipe_wipe] at hg'
      refine hg' _ ?_
      refine step i _ acc O' hk hI (wipe σ vs) H2 (saved σ ρ ++ (τ0 ++ τ)) ((D, .dic acc) :: F) x ?_ _ fun σ3 H3 ρ3 O3 h3 R3 => ?_
      · refine ((Ry.save.perm (pm _ _)).wiped vs).sub fun q hq => ?_
        simp only [List.mem_cons, List.mem_append] at hq ⊢
        rcases hq with h | h | h | h <;> simp [h]
      · refine h3 σ3 H3 _ ((D, .dic acc) :: F) R3 _ fun b H4 O4 hb R4 => ?_
        cases b with
        | true =>
          refine iteT (hb.1 rfl σ3 H4 _ ((D, .dic acc) :: F) R4 _ fun y H5 k5 O5 ⟨ns, e5, h5⟩ R5 => h5 σ3 H5 _ ((D, .dic acc) :: F) R5 _ fun z H6 k6 O7 ⟨d, O6, e6, sb, hI6⟩ R6 => ?_)
          subst e5 e6
          have R6 := R6.less sb
          have R7 := (Ry.load R6 (fun q hq => List.mem_cons_of_mem _ (List.mem_cons_of_mem _ (List.mem_append_left _ hq)))).perm (pm (.dic acc) O6).symm
          obtain ⟨ws, ew, pd⟩ := R7.cell (D, .dic acc) (List.mem_cons_self ..)
          have hz : Dt H6 z d := R7.top
          have hy : Dt H6 y (tupI ns) := R7.tmp (y, Kn.dat (tupI ns)) (by simp)
          obtain ⟨b, rfl⟩ := hy.isRef
          have gr : Grow [D] H6 (upd H6 D (.dT (putK ws (kI ns) z))) := .put (by simp)
          have nt : NoT [D] H6 := fun s hs xs e => by
            simp at hs; subst hs; rw [ew] at e; cases e
          refine ⟨b, ws, kI ns, rfl, ew, hy.tupI, by rw [pd.length]; exact Nat.lt_of_lt_of_le (iG i acc O' hi hI).1 (by decide), put acc ns d, O6, hI6, ?_⟩
          exact (R7.put (c' := .dic (put acc ns d)) ⟨_, upd_same, PD.grow gr nt (PD.put hz pd)⟩).sub fun q hq => List.mem_cons_of_mem _ (List.mem_cons_of_mem _ (List.mem_append_right _ hq))
        | false =>
          obtain ⟨O5, sb, hI5⟩ := hb.2 rfl
          refine iteF ⟨acc, O5, hI5, ?_⟩
          have R4 := R4.less sb
          exact ((Ry.load R4 (fun q hq => List.mem_append_left _ hq)).perm (pm (.dic acc) O5).symm).sub fun q hq => List.mem_append_right _ hq
    · have e : i = items.length := by omega
      subst e
      refine .inl ⟨stop, hQ _ _ _ _ (done acc O' hI D) ?_⟩
      exact (R'.sub fun q hq => List.mem_append_right _ hq).push rfl

/-! ### stores into lists -/
theorem tg_sub {Ψ : Sl → Cs → Prop} {d : PyData} {to ti : TE} (h : Ev B to ρ O fun x O1 => Ev B ti ρ O1 fun y O2 => ∃ p n j, x = .ptr p ∧ y = .dat (.int n) ∧ ((∃ ds m, O2[j]? = some (p, Cell.lst ds) ∧ ixN ds.length n = some m ∧ Ψ ρ (O2.set j (p, .lst (ds.set m d)))) ∨
    ∃ z : Int, d = .int z ∧ O2[j]? = some (p, Cell.jar) ∧ 0 ≤ n ∧ n < 3 ∧ Ψ ρ O2)) : Tg B (gSub to ti rSetL) (.dat d) ρ O Ψ := fun σ H τ F v R Q hQ =>
  h σ H _ F R _ fun o H1 x O1 h1 R1 => h1 σ H1 _ F R1 _ fun w H2 y O2 ⟨p, n, j, e1, e2, q⟩ R2 => by
    subst e1 e2
    have ho : o = .ref p := R2.tmp (o, .ptr p) (by simp)
    have hw : Dt H2 w (.int n) := R2.top
    have hv : Dt H2 v d := R2.tmp (v, .dat d) (by simp)
    cases hw
    have R3 : Rs B H2 σ ρ (O2 ++ F) τ := R2.pop.pop.pop
    rcases q with ⟨ds, m, hj, hm, q⟩ | ⟨z, ez, hj, h0, h3, q⟩
    · obtain ⟨ws, ew, dl⟩ := R3.cellAt hj
      have gr : Grow [p] H2 (upd H2 p (.lst (ws.set m v))) := .put (by simp)
      have nt : NoT [p] H2 := fun s hs xs e => by
        simp at hs; subst hs; rw [ew] at e; cases e
      exact ⟨p, ws, n, m, ho, rfl, ew, by rw [dl.length]; exact hm, hQ _ _ _ _ q (R3.setC hj (c' := .lst (ds.set m d)) ⟨_, upd_same, (DtL.set hv m dl).grow gr nt⟩)⟩
    · subst ez
      cases hv
      obtain ⟨a, b, c, ew⟩ := R3.cellAt hj
      have hn : ∃ m, ixN 3 n = some m ∧ m < 3 := ⟨n.toNat, by unfold ixN; rw [if_pos h0, if_pos (by exact_mod_cast h3)], by omega⟩
      obtain ⟨m, hm, hm3⟩ := hn
      refine ⟨p, _, n, m, ho, rfl, ew, hm, hQ _ _ _ _ q ?_⟩
      have hs : O2.set j (p, Cell.jar) = O2 := by
        apply List.ext_getElem?
        intro i
        by_cases hij : j = i
        · subst hij
          rw [List.getElem?_set_self (List.getElem?_eq_some_iff.mp hj).1, hj]
        · rw [List.getElem?_set_ne hij]
      have := R3.setC hj (c' := .jar) (o := .lst ([V.int a, V.int b, V.int c].set m (.int z))) (by
        have : m = 0 ∨ m = 1 ∨ m = 2 := by omega
        rcases this with rfl | rfl | rfl
        · exact ⟨z, b, c, upd_same⟩
        · exact ⟨a, z, c, upd_same⟩
        · exact ⟨a, b, z, upd_same⟩)
      rw [hs] at this
      exact this
/-- three ints in a new list, from here on a jar -/
theorem ev_jar (h : EvA B as ρ O fun ks O1 => ∃ a b c : Int, ks = [.dat (.int a), .dat (.int b), .dat (.int c)] ∧ ∀ p, Φ (.ptr p) ((p, .jar) :: O1)) : Ev B (tLst as) ρ O Φ := fun σ H τ F R Q hQ =>
  h σ H τ F R _ fun vs H1 ks O1 ⟨a, b, c, e, q⟩ hl R1 => by
    subst e
    match vs, hl with
    | [u, v, w], _ =>
      have hu : Dt H1 u (.int a) := R1.tmp (u, Kn.dat (.int a)) (by simp)
      have hv : Dt H1 v (.int b) := R1.tmp (v, Kn.dat (.int b)) (by simp)
      have hw : Dt H1 w (.int c) := R1.tmp (w, Kn.dat (.int c)) (by simp)
      cases hu
      cases hv
      cases hw
      exact ⟨by show 3 ≤ sizeLine; decide, fun p hp => hQ _ _ _ _ (q p) ((Rs.lay (c := .jar) (R1.sub fun q hq => List.mem_append_right _ hq) _ hp ⟨a, b, c, upd_same⟩).push rfl)⟩

/-! ### instances -/
/-- what isinstance asks of the class -/
structure IsC (K : PySem.W.Frag) (C : Addr) : Prop where
  cl : Cls K C
  ha : PySem.W.findIn K (.ref C) "__class__" = some (some (.builtin "object.__class__"))
  hn : PySem.W.specialIn K (.builtin "object.__class__") "__get__" = some (some (.builtin "getset_descriptor.__get__"))
  htk : PySem.W.takesIn K (.builtin "object.__class__") = some true
  hm : PySem.W.mroIn K C (.type "object") = some true
theorem oc_isC {C : Addr} {fs : List (Str × PyData)} (c : IsC K C) (hm : (p, Cell.ins C fs) ∈ O) (q : Φ (.dat (.bool true)) O) : OpC B (rIsi K) [.ptr p, .ptr C] O Φ := fun σ ρ H τ F vs hl hv R Q hQ => by
  match vs, hl with
  | [v, w], _ =>
    have e : v = .ref p := hv (v, .ptr p) (by simp)
    have e' : w = .ref C := hv (w, .ptr C) (by simp)
    obtain ⟨dx, ws, ew, _⟩ := R.cell _ (List.mem_append_left _ hm)
    subst e e'
    exact ⟨_, _, .ref C, .ref C, true, rfl, .own C, .base (.ins ew c.cl c.ha c.hn c.htk c.hm), if_pos (beq_self_eq_true _), hQ _ _ _ _ q (R.push (.bl _))⟩
end
end Sk

/-! Sk7: comprehensions with two fors; promises at places without guards; calls by keyword; the making of a Lot. -/
namespace Sk
open PySem PySem.Spec PyProof.Rows L2
section
variable {B : Bs} {K : PySem.W.Frag} {ρ : Sl} {O F : Cs} {Φ Ψ : Kn → Cs → Prop} {ta tb tc te : TE} {tt tt1 : TT} {as : TA} {k x y : Kn} {i : Nat} {H : Hp} {σ : L2.St} {τ : List (V × Kn)} {p : Addr} {c c' : Cell}
theorem ev_lc2 {wi wi1 : TI} {g g1 : TG} {vs vs1 : List Nat} (h : EvI B wi ρ O fun items need O1 => ∃ (α : Type) (xs : List α) (κ : α → Kn) (f : α → List PyData), items = xs.map κ ∧ (xs.flatMap f).length ≤ 100000 ∧ (∀ q ∈ need, q ∈ O1) ∧
    (∀ x ∈ xs, Tg B g (κ x) (forget ρ vs) O1 fun ρ2 O2 => EvT B tt ρ2 O2 fun b O3 => b = true ∧ EvI B wi1 ρ2 O3 fun items1 need1 O4 => ∃ κ1 : PyData → Kn, items1 = (f x).map κ1 ∧ (∀ q ∈ need1, q ∈ O4) ∧ Sub O1 O4 ∧
      ∀ d ∈ f x, Tg B g1 (κ1 d) (forget ρ2 vs1) O4 fun ρ3 O5 => EvT B tt1 ρ3 O5 fun b O6 => b = true ∧ Ev B te ρ3 O6 fun y O7 => y = .dat d ∧ Sub O4 O7) ∧
    ∀ p, Φ (.ptr p) ((p, .lst (xs.flatMap f)) :: O1)) (hg : Own g vs) (hg1 : Own g1 vs1) : Ev B (tLc2 wi g tt wi1 g1 tt1 te vs vs1) ρ O Φ := fun σ H τ F R Q hQ =>
  h σ H τ F R _ fun J H1 items need O1 τ0 ⟨α, xs, κ, f, hits, hz, hneed, step, done⟩ R1 Wk => fun D hD => by
    subst hits
    refine ⟨fun i m H' => m = xs.length - i ∧ i ≤ xs.length ∧ Rs B H' σ ρ ((D, .lst ((xs.take i).flatMap f)) :: (O1 ++ F)) (τ0 ++ τ), ⟨_, rfl, Nat.zero_le _, R1.lay (c := .lst []) (.lst []) hD ⟨[], upd_same, .nil⟩⟩, ?_⟩
    rintro i m H' ⟨rfl, hi, R'⟩
    obtain ⟨go, stop, yld⟩ := Wk H' σ ρ _ τ R' (fun q hq => List.mem_cons_of_mem _ (List.mem_append_left _ (hneed q hq)))
    rw [List.length_map] at go stop
    by_cases hlt : i < xs.length
    · refine .inr ⟨go i hlt, fun H2 => Rs B H2 σ ρ ((D, .lst ((xs.take (i + 1)).flatMap f)) :: (O1 ++ F)) (τ0 ++ τ), fun H2 R2 => ⟨xs.length - (i + 1), by omega, rfl, hlt, R2⟩, fun v H2 y => ?_⟩
      have hx : xs[i]? = some xs[i] := List.getElem?_eq_getElem hlt
      have hk : (xs.map κ)[i]? = some (κ xs[i]) := by rw [List.getElem?_map, hx]; rfl
      have et : (xs.take (i + 1)).flatMap f = (xs.take i).flatMap f ++ f xs[i] := by
        rw [List.take_add_one, hx, List.flatMap_append]
        simp
      have zt : ((xs.take (i + 1)).flatMap f).length ≤ 100000 := by
        refine Nat.le_trans ?_ hz
        conv => rhs; rw [← List.take_append_drop (i + 1) xs]
        rw [List.flatMap_append, List.length_append]
        exact Nat.le_add_right _ _
      have Ry := yld i _ v H2 hk y
      have pm : ∀ (c : Cell) (O2 : Cs), ((D, c) :: (O2 ++ F)).Perm (O2 ++ ((D, c) :: F)) := fun c O2 => List.perm_middle.symm
      have hg' := hg v (wipe σ vs) H2
      simp only [wipe_wipe] at hg'
      refine hg' _ ?_
      refine step _ (List.getElem_mem hlt) (wipe σ vs) H2 (saved σ ρ ++ (τ0 ++ τ)) ((D, .lst ((xs.take i).flatMap f)) :: F) v ?_ _ fun σ3 H3 ρ3 O3 h3 R3 => ?_
      · refine ((Ry.save.perm (pm _ _)).wiped vs).sub fun q hq => ?_
        simp only [List.mem_cons, List.mem_append] at hq ⊢
        rcases hq with h | h | h | h <;> simp [h]
      · refine h3 σ3 H3 _ ((D, .lst ((xs.take i).flatMap f)) :: F) R3 _ fun b H4 O4 ⟨hb, h4⟩ R4 => ?_
        subst hb
        refine iteT (h4 σ3 H4 _ ((D, .lst ((xs.take i).flatMap f)) :: F) R4 _ fun J1 H5 items1 need1 O5 τ1 ⟨κ1, hits1, hneed1, sb1, step1⟩ R5 Wk1 => ?_)
        subst hits1
        refine ⟨fun j m H' => m = (f xs[i]).length - j ∧ j ≤ (f xs[i]).length ∧ Rs B H' σ3 ρ3 (O5 ++ ((D, .lst ((xs.take i).flatMap f ++ (f xs[i]).take j)) :: F)) (τ1 ++ (saved σ ρ ++ (τ0 ++ τ))), ⟨_, rfl, Nat.zero_le _, by rw [List.take_zero, List.append_nil]; exact R5⟩, ?_⟩
        rintro j m H6 ⟨rfl, hj, R6⟩
        obtain ⟨go1, stop1, yld1⟩ := Wk1 H6 σ3 ρ3 _ (saved σ ρ ++ (τ0 ++ τ)) R6 (fun q hq => List.mem_append_left _ (hneed1 q hq))
        rw [List.length_map] at go1 stop1
        by_cases hlt1 : j < (f xs[i]).length
        · refine .inr ⟨go1 j hlt1, fun H7 => Rs B H7 σ3 ρ3 (O5 ++ ((D, .lst ((xs.take i).flatMap f ++ (f xs[i]).take (j + 1))) :: F)) (τ1 ++ (saved σ ρ ++ (τ0 ++ τ))), fun H7 R7 => ⟨(f xs[i]).length - (j + 1), by omega, rfl, hlt1, R7⟩, fun u H7 y7 => ?_⟩
          have hd : (f xs[i])[j]? = some (f xs[i])[j] := List.getElem?_eq_getElem hlt1
          have hk1 : ((f xs[i]).map κ1)[j]? = some (κ1 (f xs[i])[j]) := by rw [List.getElem?_map, hd]; rfl
          have R7 := yld1 j _ u H7 hk1 y7
          have hg1' := hg1 u (wipe σ3 vs1) H7
          simp only [wipe_wipe] at hg1'
          refine hg1' _ ?_
          refine step1 _ (List.getElem_mem hlt1) (wipe σ3 vs1) H7 (saved σ3 ρ3 ++ (τ1 ++ (saved σ ρ ++ (τ0 ++ τ)))) ((D, .lst ((xs.take i).flatMap f ++ (f xs[i]).take j)) :: F) u ?_ _ fun σ8 H8 ρ8 O8 h8 R8 => ?_
          · refine (R7.save.wiped vs1).sub fun q hq => ?_
            simp only [List.mem_cons, List.mem_append] at hq ⊢
            rcases hq with h | h | h | h | h | h <;> simp [h]
          · refine h8 σ8 H8 _ _ R8 _ fun b H9 O9 ⟨hb, h9⟩ R9 => ?_
            subst hb
            refine iteT (h9 σ8 H9 _ _ R9 _ fun z H10 k10 O10 ⟨e10, sb10⟩ R10 => ?_)
            subst e10
            have R10 := R10.less sb10
            have R11 := (R7.load R10 (fun q hq => List.mem_cons_of_mem _ (List.mem_append_left _ hq))).perm (O' := (D, .lst ((xs.take i).flatMap f ++ (f xs[i]).take j)) :: (O5 ++ F)) (pm _ _).symm
            obtain ⟨ws, ew, dw⟩ := R11.cell (D, .lst _) (List.mem_cons_self ..)
            have hy : Dt H10 z (f xs[i])[j] := R11.top
            have gr : Grow [D] H10 (upd H10 D (.lst (ws ++ [z]))) := .put (by simp)
            have nt : NoT [D] H10 := fun s hs xs e => by
              simp at hs; subst hs; rw [ew] at e; cases e
            have dn := (dw.append (.cons hy .nil)).grow gr nt
            have et1 : (xs.take i).flatMap f ++ (f xs[i]).take j ++ [(f xs[i])[j]] = (xs.take i).flatMap f ++ (f xs[i]).take (j + 1) := by
              rw [List.append_assoc, List.take_add_one, hd]; rfl
            rw [et1] at dn
            refine ⟨ws, ew, ?_, ?_⟩
            · rw [dw.length, List.length_append, List.length_take]
              rw [et, List.length_append] at zt
              exact Nat.lt_of_lt_of_le (by omega : _ < 100000) (by decide)
            · exact ((R11.put (c' := .lst _) ⟨_, upd_same, dn⟩).perm (pm _ _)).sub fun q hq => List.mem_cons_of_mem _ (List.mem_append_right _ hq)
        · have e : j = (f xs[i]).length := by omega
          subst e
          refine .inl ⟨stop1, ?_⟩
          rw [List.take_length, ← et] at R6
          have R7 := R6.less sb1
          exact ((Ry.load R7 (fun q hq => List.mem_append_right _ (List.mem_append_left _ hq))).perm (pm _ _).symm).sub fun q hq => List.mem_append_right _ (List.mem_append_right _ hq)
    · have e : i = xs.length := by omega
      subst e
      rw [List.take_length] at R'
      refine .inl ⟨stop, hQ _ _ _ _ (done D) ?_⟩
      exact (R'.sub fun q hq => List.mem_append_right _ hq).push rfl
end

section
variable {P : Program} {w : World} {K : PySem.W.Frag} {mg : Str → Option Value} {base : Heap}
/-- as Cl, where no guard stands -/
def ClG (P : Program) (w : World) (K : PySem.W.Frag) (mg : Str → Option Value) (base : Heap) (x : Str) (k n : Nat) (W : WT) : Prop :=
  ∃ f fd ps, Nw.FnG P w K mg base k f fd ps (spW n W) ∧ mg x = some (.ref f) ∧ PySem.W.keepIn K (.ref f) = true ∧ Binds K fd ps []
theorem bx_run {n m : Nat} {W : WT} {t : TS} (hb : Bx n m W t) {N : List Str} (hm : N.length = m) {vs : List V} {H : Hp} {Q : VK} {E : XK} (h : spW n W vs H Q E) : t { nx := fun _ H' => Q .non H', rt := Q } (L2.start N vs) H := by
  subst hm
  obtain ⟨hl, ks, O, Φ, hk, hv, hc, hnd, hW, q⟩ := h
  have hkl : ks.length = n := by omega
  have R0 : Rs ⟨O.map (·.1), H⟩ H (L2.start N vs) (ks.map some ++ List.replicate (N.length - n) none) O [] := by
    refine ⟨.refl _ _, ?_, ?_, (fun q hq => nomatch hq), hc, hnd, fun q hq => .inl (List.mem_map.mpr ⟨q, hq, rfl⟩)⟩
    · unfold L2.start
      rw [List.length_append, List.length_append, List.length_map, List.length_map, List.length_replicate, List.length_replicate]
      omega
    · intro i k e
      unfold L2.start
      rw [show N.length - vs.length = N.length - n by omega]
      exact slots_start hk hv _ i k e
  refine hb ⟨O.map (·.1), H⟩ ks O Φ hkl hW (L2.start N vs) H [] [] _ (by rw [List.append_nil]; exact R0) ⟨fun σ H' ρ O' h R => ?_, fun v H' σ ρ k O' h R => ?_, fun _ _ _ _ h => h.elim, fun _ _ _ _ h => h.elim⟩
  · obtain ⟨O2, sb, h⟩ := h
    have R := R.less sb
    rw [List.append_nil] at R
    exact q .non H' (.dat .none) O2 h .non R.grow R.cell R.nd R.own
  · obtain ⟨O2, sb, h⟩ := h
    have R := R.less sb
    rw [List.append_nil] at R
    exact q v H' k O2 h R.top R.grow R.cell R.nd R.own
theorem clG_of {x : Str} {st : Stmt} {f : Addr} {fd : FuncData} {N ps : List Str} (k n : Nat) {W : WT} (F : Df K mg x st f fd) (S : FnScope N ps (defScope st)) (hn : ps.length = n)
    (hb : ∀ (kV doc pm : Value) (an : Option Addr) (cdv ct : Value) (us : List Value), us.length = ps.length → bindArgs (PySem.W.fnOf x x (defArgs st) (defBody st) (defScope st) .none kV doc pm an cdv ct) ⟨us, []⟩ = pure (ps.zip us))
    (hbody : ∀ (cdv : Value) (A : Around) (outer : List Env) (s : Shared) (H : Hp) (E : XK), Room k (A.deeper (envOfC x (defScope st) s.heap.objs.size f cdv)) → (A.deeper (envOfC x (defScope st) s.heap.objs.size f cdv)).guards = some [] →
      ∃ t, PSs (cxOf CX0 P w K mg base N x (defScope st) f cdv A outer s H E).nox (defBody st) t ∧ Bx n N.length W t) : ClG P w K mg base x (k + 1) n W :=
  ⟨f, fd, ps, Nw.fnG_of F.fn S (fun vs H Q E h => by rw [hn]; exact h.1) fun cdv A outer s H vs Q E hr hg h => by
    obtain ⟨t, ht, q⟩ := hbody cdv A outer s H E hr hg
    exact ⟨t, ht, bx_run q rfl h⟩, F.at_, F.fn.kp, F.fn.binds hb⟩
end
section
variable {X : Cx}
theorem pe_clG {x : Str} {k n : Nat} {W : WT} {t : TA} {p pos : Pos} {e : Expr} {es : List Expr} (C : ClG X.prog X.w X.K X.mg X.base x k n W) (hr : Room k X.A) (hgd : X.A.guards = some []) (hg : Gl X x) (ha : PA X (e :: es) t)
    (hdb : (x == ("__debug__" : Str)) = false := by decide) (he : starEach (e :: es) X.env = (false, eval e X.env) :: starEach es X.env := by rfl) (hpl : (backTo pos (starEach es X.env)).any (·.1) = false := by rfl) :
    PE X (.Call (.Name x p) (e :: es) [] pos) (tCall (spW n W) [] E0 t) := by
  obtain ⟨f, fd, ps, F, hm, kp, b⟩ := C
  exact Nw.pe_callG F hr hgd hg hm kp b ha hdb he hpl
/-- a def of one parameter, called by its name -/
def ClK (P : Program) (w : World) (K : PySem.W.Frag) (mg : Str → Option Value) (base : Heap) (x kn : Str) (k : Nat) (W : WT) : Prop :=
  ∃ f fd, FnOk P w K mg base CX0 k f fd [kn] (spW 1 W) ∧ mg x = some (.ref f) ∧ PySem.W.keepIn K (.ref f) = true ∧ ∀ (s : Shared) (u : Value), BindsTo s fd ⟨[], [(kn, u)]⟩ [(kn, u)]
theorem pe_clK {x kn : Str} {k : Nat} {W : WT} {te : TE} {p pos kpos : Pos} {e : Expr} (C : ClK X.prog X.w X.K X.mg X.base x kn k W) (hr : Room k X.A) (hg : Gl X x) (ha : PE X e te)
    (hdb : (x == ("__debug__" : Str)) = false := by decide) : PE X (.Call (.Name x p) [] [⟨some kn, e, kpos⟩] pos) (tCall (spW 1 W) [] E0 (tCons te tNil)) := by
  obtain ⟨f, fd, F, hm, kp, b⟩ := C
  exact Nw.pe_callKw1 F hr hg hm kp b ha hdb
/-- the class of lots, where it stands -/
structure LotC (P : Program) (w : World) (K : PySem.W.Frag) (mg : Str → Option Value) (C : Addr) : Prop where
  is : IsC K C
  at_ : mg "Lot" = some (.ref C)
  tree : NoAttr K C "tree"
  planes : NoAttr K C "planes"
/-- Lot(..) by its __init__ -/
def MkL (P : Program) (w : World) (K : PySem.W.Frag) (mg : Str → Option Value) (base : Heap) (C : Addr) (k : Nat) (W : WT) : Prop :=
  ∃ f fd ps, Mk K C f ∧ mg "Lot" = some (.ref C) ∧ FnOk P w K mg base CX0 k f fd ps (spW 2 W) ∧ Binds K fd ps []
theorem pe_mkLot {C : Addr} {k : Nat} {W : WT} {t : TA} {p pos : Pos} {e : Expr} {es : List Expr} (M : MkL X.prog X.w X.K X.mg X.base C k W) (hr : Room (k + 1) X.A) (hg : Gl X "Lot") (ha : PA X (e :: es) t)
    (he : starEach (e :: es) X.env = (false, eval e X.env) :: starEach es X.env := by rfl) (hpl : (backTo pos (starEach es X.env)).any (·.1) = false := by rfl) :
    PE X (.Call (.Name "Lot" p) (e :: es) [] pos) (tMake C (spW 2 W) [] E0 t) := by
  obtain ⟨f, fd, ps, m, hm, F, b⟩ := M
  exact pe_make m F hr hg hm b .nil pass0 ha (by decide) he hpl
end
theorem pickT {b : Bool} {Y N : Prop} (h : b = true) (y : Y) : (b = true → Y) ∧ (b = false → N) := ⟨fun _ => y, fun e => absurd (h.symm.trans e) (by decide)⟩
theorem pickF {b : Bool} {Y N : Prop} (h : b = false) (n : N) : (b = true → Y) ∧ (b = false → N) := ⟨fun e => absurd (h.symm.trans e) (by decide), fun _ => n⟩
section
variable {X : Cx}
theorem pe_cst {x : Str} {n : Int} {pos : Pos} (hg : Gl X x) (h : ∃ t, X.mg x = some (.int n t)) (hd : (x == ("__debug__" : Str)) = false := by decide) : PE X (.Name x pos) (tC (.int n)) := by
  obtain ⟨t, h⟩ := h
  exact pe_glob hg h ⟨t, rfl⟩ hd
end
section
variable {P : Program} {w : World} {K : PySem.W.Frag} {mg : Str → Option Value} {base : Heap}
/-- a promise that nobody asks for -/
theorem cl_none {x : Str} {st : Stmt} {f : Addr} {fd : FuncData} {ps : List Str} {k n : Nat} {W : WT} (F : Df K mg x st f fd)
    (hb : ∀ (kV doc pm : Value) (an : Option Addr) (cdv ct : Value) (us : List Value), us.length = ps.length → bindArgs (PySem.W.fnOf x x (defArgs st) (defBody st) (defScope st) .none kV doc pm an cdv ct) ⟨us, []⟩ = pure (ps.zip us))
    (hW : ∀ ks O Φ, ¬ W ks O Φ) : Cl P w K mg base x k n W :=
  ⟨f, fd, ps, ⟨fun _ _ _ _ ⟨_, ks, O, Φ, _, _, _, _, h, _⟩ => absurd h (hW ks O Φ), fun _ _ _ _ _ _ _ _ _ _ _ _ _ ⟨_, ks, O, Φ, _, _, _, _, h, _⟩ => absurd h (hW ks O Φ)⟩, F.at_, F.fn.kp, F.fn.binds hb⟩
end
end Sk

/-! Sk8: the rules with the written part by its own name (so that a block's context does not enter a reading). -/
namespace Sk
open PySem PySem.Spec PyProof.Rows L2
section
variable {X : Cx} {K : PySem.W.Frag}
theorem kIx (h : X.K = K := by rfl) : IxR X (rIx K) := by subst h; exact ix_seq
theorem kEqD (hu : X.A.units + 64 < cLine) (h : X.K = K := by rfl) : OpR X (compareOp .Eq) (rEqD K) := by subst h; exact op_eqD hu
theorem kNeD (hu : X.A.units + 64 < cLine) (h : X.K = K := by rfl) : OpR X (compareOp .NotEq) (rNeD K) := by subst h; exact op_neD hu
theorem kIn (h : X.K = K := by rfl) : OpR X (compareOp .In) (rIn K false) := by subst h; exact op_in_seq
theorem kNotIn (h : X.K = K := by rfl) : OpR X (compareOp .NotIn) (rIn K true) := by subst h; exact op_notIn_seq
theorem kInD (hu : X.A.units + 65 < cLine) (h : X.K = K := by rfl) : OpR X (compareOp .In) (rInD K) := by subst h; exact op_inD hu
theorem kNotInD (hu : X.A.units + 65 < cLine) (h : X.K = K := by rfl) : OpR X (compareOp .NotIn) (rNotInD K) := by subst h; exact op_notInD hu
theorem kLen (h : X.K = K := by rfl) : CallR X (.builtin "len") fun xs H Q => ∃ p ys, xs = [.ref p] ∧ (SqL K H p ys ∨ SqT K H p ys) ∧ Q (.int ys.length) H := by subst h; exact call_len_seq
theorem kIsi (h : X.K = K := by rfl) : CallR X (.builtin "isinstance") (rIsi K) := by subst h; exact call_isi
theorem kAll (hc : X.calm = true) (h : X.K = K := by rfl) : CallR X (.builtin "all") (rAll K) := by subst h; exact cr_all hc
theorem kAny (hc : X.calm = true) (h : X.K = K := by rfl) : CallR X (.builtin "any") (rAny K) := by subst h; exact cr_any hc
theorem kMax (hc : X.calm = true) (h : X.K = K := by rfl) : CallR X (.builtin "max") (rMax K) := by subst h; exact cr_max hc
theorem kTupleOf (h : X.K = K := by rfl) : CallR X (.type "tuple") fun xs H Q => ∃ p ys, xs = [.ref p] ∧ ((SqL K H p ys ∧ ∀ l, H l = none → Q (.ref l) (upd H l (.tup ys))) ∨ (SqT K H p ys ∧ Q (.ref p) H)) := by subst h; exact call_tuple_of
theorem kListOf (h : X.K = K := by rfl) : CallR X (.type "list") fun xs H Q => ∃ p ys, xs = [.ref p] ∧ (SqL K H p ys ∨ SqT K H p ys) ∧ ∀ l, H l = none → Q (.ref l) (upd H l (.lst ys)) := by subst h; exact call_list_of
theorem kSorted (hc : X.calm = true) (hu : X.A.units + 64 < cLine) (h : X.K = K := by rfl) : CallR X (.builtin "sorted") (Nw.rSortT K) := by subst h; exact Nw.cr_sortedD hc hu
theorem kRepr (hg : X.A.guards = some []) (hu : X.A.units + 64 < cLine) (h : X.K = K := by rfl) : CallR X (.builtin "repr") (fun xs H Q => ∃ (a : Addr) (d : PyData), xs = [.ref a] ∧ Dp K H (.ref a) d ∧ d.showable = true ∧ d.hasDict = false ∧ d.depth ≤ 60 ∧ d.shown.length ≤ sizeLine ∧ Q (.str d.shown) H) := by subst h; exact Nw.call_reprD hg hu
theorem kTup {tg l : Expr} {tl : TE} (hp : PE X l tl) (h : X.K = K := by rfl) : PI X tg l (iTup K tl) := by subst h; exact pi_tup hp
theorem kList {tg l : Expr} {tl : TE} (hp : PE X l tl) (h : X.K = K := by rfl) : PI X tg l (iList K tl) := by subst h; exact pi_list hp
theorem kSlA (h : X.K = K := by rfl) : SlR X (rSlA K) := by subst h; exact sl_tupA
theorem kFld {e : Expr} {f : Str} {pos : Pos} {ta : TE} (hp : PE X e ta) (hb : attributeBase e f X.env (eval e X.env) = eval e X.env) (h : X.K = K := by rfl) : PE X (e.Attribute f pos) (tFld K ta f) := by subst h; exact pe_fld hp hb
theorem ksFld {o value : Expr} {f : Str} {pos pos' : Pos} {ta tv : TE} (ho : PE X o ta) (hv : PE X value tv) (hs : swapsWith value (some (o.Attribute f pos')) pos.line X.env = pure false) (h : X.K = K := by rfl) : PS X (.Assign [o.Attribute f pos'] value pos) (sFld K ta tv f) := by subst h; exact ps_fld ho hv hs
theorem kgTup {pos : Pos} {es : List Expr} {k : Nat} {t : TGs} {n : Nat} (hc : X.calm = true) (ht : PGs X es t) (hn : (assignEach es X.env).length = n := by rfl) (hf : List.findIdx? (fun x => x.fst) (assignEach es X.env) = none := by rfl) (h : X.K = K := by rfl) : PG X (.Tuple es k pos) (gTup K n t) := by subst h; exact pg_tup hc ht hn hf
theorem kBM {T id : String} {name : Str} {r : V → List V → Hp → VK → Prop} {o e : Expr} {es : List Expr} {apos cpos : Pos} {to : TE} {t : TA} (pa : PlainAttrs T) (slot : Slot T name id) (hty : typeOf (.builtin id) = pure (.type "method_descriptor")) (hm : MtR X id r) (ho : PE X o to) (ha : PA X (e :: es) t)
    (hbase : attributeBase o name X.env (eval o X.env) = eval o X.env := by rfl)
    (hfew : ((backTo cpos (starEach (e :: es) X.env)).all (fun x => !x.1) && (backToKw cpos (keywordEach [] X.env)).all (fun x => x.1.isSome)
      && decide ((e :: es).length + ([] : List Keyword).length + (if ([] : List Keyword).isEmpty then 0 else 1) < 30)) = true := by rfl)
    (hline : (apos.endLine == cpos.line) = true := by rfl) (hs : starEach (e :: es) X.env = (false, eval e X.env) :: starEach es X.env := by rfl) (hplain : (backTo cpos (starEach es X.env)).any (·.1) = false := by rfl) (h : X.K = K := by rfl) :
    PE X (.Call (.Attribute o name apos) (e :: es) [] cpos) (tBM K T r to t) := by subst h; exact pe_bm pa slot hty hm ho ha hbase hfew hline hs hplain
theorem kDictZip {a a2 : Expr} {ta : TA} {p p2 q pos : Pos} (hu : X.A.units + 64 < cLine) (hcalm : X.calm = true) (hg : Gl X "dict") (hm : X.mg "dict" = none) (hg2 : Gl X "zip") (hm2 : X.mg "zip" = none) (ha : PA X [a, a2] ta)
    (hs : starEach [a, a2] X.env = (false, eval a X.env) :: starEach [a2] X.env := by rfl) (hpl : (backTo q (starEach [a2] X.env)).any (·.1) = false := by rfl)
    (na : starEach [.Call (.Name "zip" p2) [a, a2] [] q] X.env = (false, eval (.Call (.Name "zip" p2) [a, a2] [] q) X.env) :: starEach [] X.env := by rfl) (h : X.K = K := by rfl) : PE X (.Call (.Name "dict" p) [.Call (.Name "zip" p2) [a, a2] [] q] [] pos) (Nw.tDictZipT K ta) := by subst h; exact Nw.pe_dictZipT hu hcalm hg hm hg2 hm2 ha hs hpl na
theorem kEnum {e : Expr} {ta : TA} {p pos tpos : Pos} {elts : List Expr} {kk : Nat} (hg : Gl X "enumerate") (hm : X.mg "enumerate" = none) (ha : PA X [e] ta) (hs : starEach [e] X.env = [(false, eval e X.env)] := by rfl) (h : X.K = K := by rfl) :
    PI X (.Tuple elts kk tpos) (.Call (.Name "enumerate" p) [e] [] pos) (Nw.iEnumT K ta) := by subst h; exact Nw.pi_enumT hg hm ha hs
theorem kZipTL {e e2 : Expr} {ta : TA} {p pos tpos : Pos} {elts : List Expr} {kk : Nat} (hg : Gl X "zip") (hm : X.mg "zip" = none) (ha : PA X [e, e2] ta)
    (hs : starEach [e, e2] X.env = (false, eval e X.env) :: starEach [e2] X.env := by rfl) (hpl : (backTo pos (starEach [e2] X.env)).any (·.1) = false := by rfl) (h : X.K = K := by rfl) :
    PI X (.Tuple elts kk tpos) (.Call (.Name "zip" p) [e, e2] [] pos) (Nw.iZipTL K ta) := by subst h; exact Nw.pi_zipTL hg hm ha hs hpl
theorem kZipA {e e2 : Expr} {ta : TA} {p pos tpos : Pos} {elts : List Expr} {kk : Nat} (hg : Gl X "zip") (hm : X.mg "zip" = none) (ha : PA X [e, e2] ta)
    (hs : starEach [e, e2] X.env = (false, eval e X.env) :: starEach [e2] X.env := by rfl) (hpl : (backTo pos (starEach [e2] X.env)).any (·.1) = false := by rfl) (h : X.K = K := by rfl) :
    PI X (.Tuple elts kk tpos) (.Call (.Name "zip" p) [e, e2] [] pos) (RZ.iZipA K ta) := by subst h; exact RZ.pi_zipA hg hm ha hs hpl
end
end Sk

/-! Tx: the defs of the linked text by their places (printed by gen.py heads). -/
namespace Sk
open PySem PySem.Spec PyProof.Rows L2
def topS (i : Nat) : Stmt := PySem.Challenge.pw_skyplates_k31_whole_cells_of_lots.main.body.getD i (.Pass ⟨0, 0, 0, 0⟩)
abbrev s_InvalidLotInit : Stmt := inClass (topS 3) 0
abbrev N_InvalidLotInit : List Str := ["self", "given"]
theorem sc_InvalidLotInit : FnScope N_InvalidLotInit ["self", "given"] (defScope s_InvalidLotInit) := ⟨rfl, rfl, rfl, by decide +kernel, rfl, by decide +kernel, by decide +kernel⟩
abbrev s_NotALotInit : Stmt := inClass (topS 4) 0
abbrev N_NotALotInit : List Str := ["self", "given"]
theorem sc_NotALotInit : FnScope N_NotALotInit ["self", "given"] (defScope s_NotALotInit) := ⟨rfl, rfl, rfl, by decide +kernel, rfl, by decide +kernel, by decide +kernel⟩
abbrev s_TooManyInit : Stmt := inClass (topS 5) 0
abbrev N_TooManyInit : List Str := ["self", "given"]
theorem sc_TooManyInit : FnScope N_TooManyInit ["self", "given"] (defScope s_TooManyInit) := ⟨rfl, rfl, rfl, by decide +kernel, rfl, by decide +kernel, by decide +kernel⟩
abbrev s_is_whole : Stmt := topS 7
abbrev N_is_whole : List Str := ["value"]
theorem sc_is_whole : FnScope N_is_whole ["value"] (defScope s_is_whole) := ⟨rfl, rfl, rfl, by decide +kernel, rfl, by decide +kernel, by decide +kernel⟩
abbrev s_are_wholes : Stmt := topS 8
abbrev N_are_wholes : List Str := ["value", "many", "number"]
theorem sc_are_wholes : FnScope N_are_wholes ["value", "many"] (defScope s_are_wholes) := ⟨rfl, rfl, rfl, by decide +kernel, rfl, by decide +kernel, by decide +kernel⟩
abbrev s_is_some_triple : Stmt := topS 9
abbrev N_is_some_triple : List Str := ["value"]
theorem sc_is_some_triple : FnScope N_is_some_triple ["value"] (defScope s_is_some_triple) := ⟨rfl, rfl, rfl, by decide +kernel, rfl, by decide +kernel, by decide +kernel⟩
abbrev s_common_divisor : Stmt := topS 10
abbrev N_common_divisor : List Str := ["numbers", "found", "number"]
theorem sc_common_divisor : FnScope N_common_divisor ["numbers"] (defScope s_common_divisor) := ⟨rfl, rfl, rfl, by decide +kernel, rfl, by decide +kernel, by decide +kernel⟩
abbrev s_lowest : Stmt := topS 11
abbrev N_lowest : List Str := ["numbers", "divisor", "number"]
theorem sc_lowest : FnScope N_lowest ["numbers"] (defScope s_lowest) := ⟨rfl, rfl, rfl, by decide +kernel, rfl, by decide +kernel, by decide +kernel⟩
abbrev s_first_above : Stmt := topS 12
abbrev N_first_above : List Str := ["numbers", "found", "number", "each"]
theorem sc_first_above : FnScope N_first_above ["numbers"] (defScope s_first_above) := ⟨rfl, rfl, rfl, by decide +kernel, rfl, by decide +kernel, by decide +kernel⟩
abbrev s_sign : Stmt := topS 13
abbrev N_sign : List Str := ["number"]
theorem sc_sign : FnScope N_sign ["number"] (defScope s_sign) := ⟨rfl, rfl, rfl, by decide +kernel, rfl, by decide +kernel, by decide +kernel⟩
abbrev s_dot : Stmt := topS 14
abbrev N_dot : List Str := ["row", "other"]
theorem sc_dot : FnScope N_dot ["row", "other"] (defScope s_dot) := ⟨rfl, rfl, rfl, by decide +kernel, rfl, by decide +kernel, by decide +kernel⟩
abbrev s_cross : Stmt := topS 15
abbrev N_cross : List Str := ["row", "other", "x", "y", "z", "u", "v", "w"]
theorem sc_cross : FnScope N_cross ["row", "other"] (defScope s_cross) := ⟨rfl, rfl, rfl, by decide +kernel, rfl, by decide +kernel, by decide +kernel⟩
abbrev s_negative : Stmt := topS 16
abbrev N_negative : List Str := ["row", "number"]
theorem sc_negative : FnScope N_negative ["row"] (defScope s_negative) := ⟨rfl, rfl, rfl, by decide +kernel, rfl, by decide +kernel, by decide +kernel⟩
abbrev s_is_tree : Stmt := topS 22
abbrev N_is_tree : List Str := ["value", "deep", "tree"]
theorem sc_is_tree : FnScope N_is_tree ["value", "deep"] (defScope s_is_tree) := ⟨rfl, rfl, rfl, by decide +kernel, rfl, by decide +kernel, by decide +kernel⟩
abbrev s_trees_in : Stmt := topS 23
abbrev N_trees_in : List Str := ["tree"]
theorem sc_trees_in : FnScope N_trees_in ["tree"] (defScope s_trees_in) := ⟨rfl, rfl, rfl, by decide +kernel, rfl, by decide +kernel, by decide +kernel⟩
abbrev s_leaf_planes : Stmt := topS 24
abbrev N_leaf_planes : List Str := ["tree", "each", "plane"]
theorem sc_leaf_planes : FnScope N_leaf_planes ["tree"] (defScope s_leaf_planes) := ⟨rfl, rfl, rfl, by decide +kernel, rfl, by decide +kernel, by decide +kernel⟩
abbrev s_with_reduced : Stmt := topS 25
abbrev N_with_reduced : List Str := ["tree", "each"]
theorem sc_with_reduced : FnScope N_with_reduced ["tree"] (defScope s_with_reduced) := ⟨rfl, rfl, rfl, by decide +kernel, rfl, by decide +kernel, by decide +kernel⟩
abbrev s_planes_of_tree : Stmt := topS 26
abbrev N_planes_of_tree : List Str := ["tree", "found", "plane"]
theorem sc_planes_of_tree : FnScope N_planes_of_tree ["tree"] (defScope s_planes_of_tree) := ⟨rfl, rfl, rfl, by decide +kernel, rfl, by decide +kernel, by decide +kernel⟩
abbrev s_tree_holds : Stmt := topS 27
abbrev N_tree_holds : List Str := ["tree", "signs", "plane", "mine", "found", "each"]
theorem sc_tree_holds : FnScope N_tree_holds ["tree", "signs"] (defScope s_tree_holds) := ⟨rfl, rfl, rfl, by decide +kernel, rfl, by decide +kernel, by decide +kernel⟩
abbrev s_LotInit : Stmt := inClass (topS 28) 0
abbrev N_LotInit : List Str := ["self", "tree"]
theorem sc_LotInit : FnScope N_LotInit ["self", "tree"] (defScope s_LotInit) := ⟨rfl, rfl, rfl, by decide +kernel, rfl, by decide +kernel, by decide +kernel⟩
abbrev s_check_many : Stmt := topS 29
abbrev N_check_many : List Str := ["planes"]
theorem sc_check_many : FnScope N_check_many ["planes"] (defScope s_check_many) := ⟨rfl, rfl, rfl, by decide +kernel, rfl, by decide +kernel, by decide +kernel⟩
abbrev s_check_lot : Stmt := topS 30
abbrev N_check_lot : List Str := ["value"]
theorem sc_check_lot : FnScope N_check_lot ["value"] (defScope s_check_lot) := ⟨rfl, rfl, rfl, by decide +kernel, rfl, by decide +kernel, by decide +kernel⟩
abbrev s_lot_with : Stmt := topS 31
abbrev N_lot_with : List Str := ["tree", "found"]
theorem sc_lot_with : FnScope N_lot_with ["tree"] (defScope s_lot_with) := ⟨rfl, rfl, rfl, by decide +kernel, rfl, by decide +kernel, by decide +kernel⟩
abbrev s_signs_at : Stmt := topS 32
abbrev N_signs_at : List Str := ["planes", "row", "plane"]
theorem sc_signs_at : FnScope N_signs_at ["planes", "row"] (defScope s_signs_at) := ⟨rfl, rfl, rfl, by decide +kernel, rfl, by decide +kernel, by decide +kernel⟩
abbrev s_has_signs : Stmt := topS 33
abbrev N_has_signs : List Str := ["lot", "planes", "signs"]
theorem sc_has_signs : FnScope N_has_signs ["lot", "planes", "signs"] (defScope s_has_signs) := ⟨rfl, rfl, rfl, by decide +kernel, rfl, by decide +kernel, by decide +kernel⟩
abbrev s_rest : Stmt := topS 34
abbrev N_rest : List Str := ["lot"]
theorem sc_rest : FnScope N_rest ["lot"] (defScope s_rest) := ⟨rfl, rfl, rfl, by decide +kernel, rfl, by decide +kernel, by decide +kernel⟩
abbrev s_added : Stmt := topS 36
abbrev N_added : List Str := ["row", "other", "times"]
theorem sc_added : FnScope N_added ["row", "other", "times"] (defScope s_added) := ⟨rfl, rfl, rfl, by decide +kernel, rfl, by decide +kernel, by decide +kernel⟩
abbrev s_near : Stmt := topS 37
abbrev N_near : List Str := ["planes", "row", "step", "times", "plane"]
theorem sc_near : FnScope N_near ["planes", "row", "step"] (defScope s_near) := ⟨rfl, rfl, rfl, by decide +kernel, rfl, by decide +kernel, by decide +kernel⟩
abbrev s_corner_rays : Stmt := topS 38
abbrev N_corner_rays : List Str := ["planes", "found", "index", "plane", "other", "ray"]
theorem sc_corner_rays : FnScope N_corner_rays ["planes"] (defScope s_corner_rays) := ⟨rfl, rfl, rfl, by decide +kernel, rfl, by decide +kernel, by decide +kernel⟩
abbrev s_level_ray : Stmt := topS 39
abbrev N_level_ray : List Str := ["plane"]
theorem sc_level_ray : FnScope N_level_ray ["plane"] (defScope s_level_ray) := ⟨rfl, rfl, rfl, by decide +kernel, rfl, by decide +kernel, by decide +kernel⟩
abbrev s_arc_rays : Stmt := topS 40
abbrev N_arc_rays : List Str := ["planes", "corners", "found", "plane", "rays", "ray", "step"]
theorem sc_arc_rays : FnScope N_arc_rays ["planes", "corners"] (defScope s_arc_rays) := ⟨rfl, rfl, rfl, by decide +kernel, rfl, by decide +kernel, by decide +kernel⟩
abbrev s_all_cells : Stmt := topS 41
abbrev N_all_cells : List Str := ["planes", "corners", "found", "plane", "rays", "ray", "signs", "step", "beside"]
theorem sc_all_cells : FnScope N_all_cells ["planes"] (defScope s_all_cells) := ⟨rfl, rfl, rfl, by decide +kernel, rfl, by decide +kernel, by decide +kernel⟩
abbrev s_zeros_in : Stmt := topS 42
abbrev N_zeros_in : List Str := ["signs", "each"]
theorem sc_zeros_in : FnScope N_zeros_in ["signs"] (defScope s_zeros_in) := ⟨rfl, rfl, rfl, by decide +kernel, rfl, by decide +kernel, by decide +kernel⟩
abbrev s_lies_at : Stmt := topS 43
abbrev N_lies_at : List Str := ["signs", "other", "mine", "each"]
theorem sc_lies_at : FnScope N_lies_at ["signs", "other"] (defScope s_lies_at) := ⟨rfl, rfl, rfl, by decide +kernel, rfl, by decide +kernel, by decide +kernel⟩
abbrev s_lot_cells : Stmt := topS 44
abbrev N_lot_cells : List Str := ["lot", "planes", "found", "signs"]
theorem sc_lot_cells : FnScope N_lot_cells ["lot", "planes"] (defScope s_lot_cells) := ⟨rfl, rfl, rfl, by decide +kernel, rfl, by decide +kernel, by decide +kernel⟩
abbrev s_cells_of : Stmt := topS 45
abbrev N_cells_of : List Str := ["lot"]
theorem sc_cells_of : FnScope N_cells_of ["lot"] (defScope s_cells_of) := ⟨rfl, rfl, rfl, by decide +kernel, rfl, by decide +kernel, by decide +kernel⟩
abbrev s_any_ray : Stmt := topS 47
abbrev N_any_ray : List Str := ["lot", "signs", "ray"]
theorem sc_any_ray : FnScope N_any_ray ["lot"] (defScope s_any_ray) := ⟨rfl, rfl, rfl, by decide +kernel, rfl, by decide +kernel, by decide +kernel⟩
abbrev s_is_empty : Stmt := topS 48
abbrev N_is_empty : List Str := ["lot"]
theorem sc_is_empty : FnScope N_is_empty ["lot"] (defScope s_is_empty) := ⟨rfl, rfl, rfl, by decide +kernel, rfl, by decide +kernel, by decide +kernel⟩
abbrev s_is_open : Stmt := topS 49
abbrev N_is_open : List Str := ["lot", "mine", "signs", "each"]
theorem sc_is_open : FnScope N_is_open ["lot"] (defScope s_is_open) := ⟨rfl, rfl, rfl, by decide +kernel, rfl, by decide +kernel, by decide +kernel⟩
abbrev s_has_open : Stmt := topS 50
abbrev N_has_open : List Str := ["lot", "signs"]
theorem sc_has_open : FnScope N_has_open ["lot"] (defScope s_has_open) := ⟨rfl, rfl, rfl, by decide +kernel, rfl, by decide +kernel, by decide +kernel⟩
abbrev s_law_jar : Stmt := topS 52
abbrev N_law_jar : List Str := ["_law_script", "_law_turn", "_law_state", "_law_cell", "_law_near", "_law_great"]
theorem sc_law_jar : FnScope N_law_jar ["_law_script", "_law_turn"] (defScope s_law_jar) := ⟨rfl, rfl, rfl, by decide +kernel, rfl, by decide +kernel, by decide +kernel⟩
abbrev s_law_draw : Stmt := topS 53
abbrev N_law_draw : List Str := ["_law_jar_here", "_law_many", "_law_found", "_law_step", "_law_digit"]
theorem sc_law_draw : FnScope N_law_draw ["_law_jar_here", "_law_many"] (defScope s_law_draw) := ⟨rfl, rfl, rfl, by decide +kernel, rfl, by decide +kernel, by decide +kernel⟩
abbrev s_law_one : Stmt := topS 54
abbrev N_law_one : List Str := ["_law_jar_here", "_law_some"]
theorem sc_law_one : FnScope N_law_one ["_law_jar_here", "_law_some"] (defScope s_law_one) := ⟨rfl, rfl, rfl, by decide +kernel, rfl, by decide +kernel, by decide +kernel⟩
abbrev s_law_dot : Stmt := topS 55
abbrev N_law_dot : List Str := ["_law_n", "_law_v"]
theorem sc_law_dot : FnScope N_law_dot ["_law_n", "_law_v"] (defScope s_law_dot) := ⟨rfl, rfl, rfl, by decide +kernel, rfl, by decide +kernel, by decide +kernel⟩
abbrev s_law_cross : Stmt := topS 56
abbrev N_law_cross : List Str := ["_law_v", "_law_w"]
theorem sc_law_cross : FnScope N_law_cross ["_law_v", "_law_w"] (defScope s_law_cross) := ⟨rfl, rfl, rfl, by decide +kernel, rfl, by decide +kernel, by decide +kernel⟩
abbrev s_law_minus : Stmt := topS 57
abbrev N_law_minus : List Str := ["_law_v", "_law_number"]
theorem sc_law_minus : FnScope N_law_minus ["_law_v"] (defScope s_law_minus) := ⟨rfl, rfl, rfl, by decide +kernel, rfl, by decide +kernel, by decide +kernel⟩
abbrev s_law_by : Stmt := topS 58
abbrev N_law_by : List Str := ["_law_v", "_law_factor", "_law_number"]
theorem sc_law_by : FnScope N_law_by ["_law_v", "_law_factor"] (defScope s_law_by) := ⟨rfl, rfl, rfl, by decide +kernel, rfl, by decide +kernel, by decide +kernel⟩
abbrev s_law_sign : Stmt := topS 59
abbrev N_law_sign : List Str := ["_law_number"]
theorem sc_law_sign : FnScope N_law_sign ["_law_number"] (defScope s_law_sign) := ⟨rfl, rfl, rfl, by decide +kernel, rfl, by decide +kernel, by decide +kernel⟩
abbrev s_law_gcd : Stmt := topS 60
abbrev N_law_gcd : List Str := ["_law_one_here", "_law_two", "_law_step"]
theorem sc_law_gcd : FnScope N_law_gcd ["_law_one_here", "_law_two"] (defScope s_law_gcd) := ⟨rfl, rfl, rfl, by decide +kernel, rfl, by decide +kernel, by decide +kernel⟩
abbrev s_law_reduced : Stmt := topS 61
abbrev N_law_reduced : List Str := ["_law_row", "_law_common", "_law_number"]
theorem sc_law_reduced : FnScope N_law_reduced ["_law_row"] (defScope s_law_reduced) := ⟨rfl, rfl, rfl, by decide +kernel, rfl, by decide +kernel, by decide +kernel⟩
abbrev s_law_rim : Stmt := topS 62
abbrev N_law_rim : List Str := ["_law_n", "_law_low", "_law_lead", "_law_number"]
theorem sc_law_rim : FnScope N_law_rim ["_law_n"] (defScope s_law_rim) := ⟨rfl, rfl, rfl, by decide +kernel, rfl, by decide +kernel, by decide +kernel⟩
abbrev s_law_signs : Stmt := topS 63
abbrev N_law_signs : List Str := ["_law_rims_here", "_law_v", "_law_n"]
theorem sc_law_signs : FnScope N_law_signs ["_law_rims_here", "_law_v"] (defScope s_law_signs) := ⟨rfl, rfl, rfl, by decide +kernel, rfl, by decide +kernel, by decide +kernel⟩
abbrev s_law_are_whole : Stmt := topS 64
abbrev N_law_are_whole : List Str := ["_law_row", "_law_many", "_law_number"]
theorem sc_law_are_whole : FnScope N_law_are_whole ["_law_row", "_law_many"] (defScope s_law_are_whole) := ⟨rfl, rfl, rfl, by decide +kernel, rfl, by decide +kernel, by decide +kernel⟩
abbrev s_law_is_ray : Stmt := topS 65
abbrev N_law_is_ray : List Str := ["_law_v"]
theorem sc_law_is_ray : FnScope N_law_is_ray ["_law_v"] (defScope s_law_is_ray) := ⟨rfl, rfl, rfl, by decide +kernel, rfl, by decide +kernel, by decide +kernel⟩
abbrev s_law_triple : Stmt := topS 66
abbrev N_law_triple : List Str := ["_law_jar_here", "_law_high", "_law_row", "_law_step"]
theorem sc_law_triple : FnScope N_law_triple ["_law_jar_here", "_law_high"] (defScope s_law_triple) := ⟨rfl, rfl, rfl, by decide +kernel, rfl, by decide +kernel, by decide +kernel⟩
abbrev s_law_rims : Stmt := topS 67
abbrev N_law_rims : List Str := ["_law_jar_here", "_law_many", "_law_high", "_law_found", "_law_step", "_law_way", "_law_n", "_law_factor", "_law_k"]
theorem sc_law_rims : FnScope N_law_rims ["_law_jar_here", "_law_many", "_law_high"] (defScope s_law_rims) := ⟨rfl, rfl, rfl, by decide +kernel, rfl, by decide +kernel, by decide +kernel⟩
abbrev s_law_normal : Stmt := topS 68
abbrev N_law_normal : List Str := ["_law_jar_here", "_law_n", "_law_great", "_law_number"]
theorem sc_law_normal : FnScope N_law_normal ["_law_jar_here", "_law_n"] (defScope s_law_normal) := ⟨rfl, rfl, rfl, by decide +kernel, rfl, by decide +kernel, by decide +kernel⟩
abbrev s_law_leaf : Stmt := topS 69
abbrev N_law_leaf : List Str := ["_law_jar_here", "_law_rims_here", "_law_word"]
theorem sc_law_leaf : FnScope N_law_leaf ["_law_jar_here", "_law_rims_here"] (defScope s_law_leaf) := ⟨rfl, rfl, rfl, by decide +kernel, rfl, by decide +kernel, by decide +kernel⟩
abbrev s_law_tree : Stmt := topS 70
abbrev N_law_tree : List Str := ["_law_jar_here", "_law_rims_here", "_law_deep", "_law_way", "_law_many", "_law_step"]
theorem sc_law_tree : FnScope N_law_tree ["_law_jar_here", "_law_rims_here", "_law_deep"] (defScope s_law_tree) := ⟨rfl, rfl, rfl, by decide +kernel, rfl, by decide +kernel, by decide +kernel⟩
abbrev s_law_sky : Stmt := topS 71
abbrev N_law_sky : List Str := ["_law_jar_here", "_law_rims_here", "_law_rows", "_law_step", "_law_sky_here", "_law_row", "_law_n", "_law_mark"]
theorem sc_law_sky : FnScope N_law_sky ["_law_jar_here", "_law_rims_here"] (defScope s_law_sky) := ⟨rfl, rfl, rfl, by decide +kernel, rfl, by decide +kernel, by decide +kernel⟩
abbrev s_law_planes : Stmt := topS 72
abbrev N_law_planes : List Str := ["_law_sky_here", "_law_found", "_law_each", "_law_n"]
theorem sc_law_planes : FnScope N_law_planes ["_law_sky_here"] (defScope s_law_planes) := ⟨rfl, rfl, rfl, by decide +kernel, rfl, by decide +kernel, by decide +kernel⟩
abbrev s_law_in : Stmt := topS 73
abbrev N_law_in : List Str := ["_law_sky_here", "_law_v", "_law_truths", "_law_each"]
theorem sc_law_in : FnScope N_law_in ["_law_sky_here", "_law_v"] (defScope s_law_in) := ⟨rfl, rfl, rfl, by decide +kernel, rfl, by decide +kernel, by decide +kernel⟩
abbrev s_law_off : Stmt := topS 74
abbrev N_law_off : List Str := ["_law_v", "_law_way", "_law_rims_here", "_law_big", "_law_n", "_law_k"]
theorem sc_law_off : FnScope N_law_off ["_law_v", "_law_way", "_law_rims_here"] (defScope s_law_off) := ⟨rfl, rfl, rfl, by decide +kernel, rfl, by decide +kernel, by decide +kernel⟩
abbrev s_law_ends : Stmt := topS 75
abbrev N_law_ends : List Str := ["_law_rims_here", "_law_found", "_law_k", "_law_j", "_law_v", "_law_end"]
theorem sc_law_ends : FnScope N_law_ends ["_law_rims_here"] (defScope s_law_ends) := ⟨rfl, rfl, rfl, by decide +kernel, rfl, by decide +kernel, by decide +kernel⟩
abbrev s_law_cells : Stmt := topS 76
abbrev N_law_cells : List Str := ["_law_rims_here", "_law_more", "_law_found", "_law_arcs", "_law_table", "_law_axis", "_law_v", "_law_w", "_law_n", "_law_marks", "_law_turn", "_law_way"]
theorem sc_law_cells : FnScope N_law_cells ["_law_rims_here"] (defScope s_law_cells) := ⟨rfl, rfl, rfl, by decide +kernel, rfl, by decide +kernel, by decide +kernel⟩
abbrev s_law_is_limit : Stmt := topS 77
abbrev N_law_is_limit : List Str := ["_law_tones", "_law_marks", "_law_k"]
theorem sc_law_is_limit : FnScope N_law_is_limit ["_law_tones", "_law_marks"] (defScope s_law_is_limit) := ⟨rfl, rfl, rfl, by decide +kernel, rfl, by decide +kernel, by decide +kernel⟩
abbrev s_law_touch : Stmt := topS 78
abbrev N_law_touch : List Str := ["_law_tones", "_law_marks"]
theorem sc_law_touch : FnScope N_law_touch ["_law_tones", "_law_marks"] (defScope s_law_touch) := ⟨rfl, rfl, rfl, by decide +kernel, rfl, by decide +kernel, by decide +kernel⟩
abbrev s_law_is_wide : Stmt := topS 79
abbrev N_law_is_wide : List Str := ["_law_ins", "_law_outs", "_law_marks", "_law_tones"]
theorem sc_law_is_wide : FnScope N_law_is_wide ["_law_ins", "_law_outs"] (defScope s_law_is_wide) := ⟨rfl, rfl, rfl, by decide +kernel, rfl, by decide +kernel, by decide +kernel⟩
abbrev s_law_part_right : Stmt := topS 80
abbrev N_law_part_right : List Str := ["_law_own", "_law_sky_here", "_law_ins", "_law_outs", "_law_is_so", "_law_wide", "_law_due", "_law_v", "_law_marks"]
theorem sc_law_part_right : FnScope N_law_part_right ["_law_own", "_law_sky_here", "_law_ins", "_law_outs", "_law_is_so"] (defScope s_law_part_right) := ⟨rfl, rfl, rfl, by decide +kernel, rfl, by decide +kernel, by decide +kernel⟩
abbrev s_law_right : Stmt := topS 81
abbrev N_law_right : List Str := ["_law_jar_here", "_law_rims_here", "_law_sky_here", "_law_own", "_law_table", "_law_ins", "_law_outs", "_law_marks"]
theorem sc_law_right : FnScope N_law_right ["_law_jar_here"] (defScope s_law_right) := ⟨rfl, rfl, rfl, by decide +kernel, rfl, by decide +kernel, by decide +kernel⟩
abbrev s_law : Stmt := topS 82
abbrev N_law : List Str := ["_law_script"]
theorem sc_law : FnScope N_law ["_law_script"] (defScope s_law) := ⟨rfl, rfl, rfl, by decide +kernel, rfl, by decide +kernel, by decide +kernel⟩
end Sk


/-! Va: skyplates.values -/
namespace Sk
open PySem PySem.Spec PyProof.Rows L2
local macro_rules | `(tactic| walk_at "sk") => `(tactic| repeat' (first
  | ((with_reducible show Ev _ (tVar _) _ _ _); refine ev_var rfl ?_) | with_reducible refine ev_int ?_ | with_reducible refine ev_bl ?_ | with_reducible refine ev_non ?_ | with_reducible refine ev_str ?_ | with_reducible refine ev_ty ?_ | with_reducible refine ev_ref ?_
  | with_reducible refine ev_op ?_ | with_reducible refine ev_un ?_ | with_reducible refine ev_cb ?_ | with_reducible refine ea_cons ?_ | with_reducible refine ea_nil ?_
  | with_reducible refine ev_if ?_ | with_reducible refine ev_and ?_ | with_reducible refine ev_or ?_ | with_reducible refine ev_not ?_ | with_reducible refine ev_tup ?_ | with_reducible refine ev_call ?_
  | with_reducible refine sx_seq ?_ | with_reducible refine sx_asg ?_ | with_reducible refine tg_name ?_ | with_reducible refine sx_ret ?_ | with_reducible refine sx_next ?_ | with_reducible refine sx_drop ?_ | with_reducible refine sx_if ?_
  | with_reducible refine et_chain ?_ | with_reducible refine et_test ?_ | with_reducible refine et_B ?_ | with_reducible refine et_not ?_ | with_reducible refine et_and ?_ | with_reducible refine et_or ?_
  | with_reducible refine o_add ?_ | with_reducible refine o_sub ?_ | with_reducible refine o_lt ?_ | with_reducible refine o_le ?_ | with_reducible refine o_gt ?_ | with_reducible refine o_ge ?_
  | with_reducible refine o_neg ?_ | with_reducible refine o_subB ?_ | with_reducible refine o_mul ?_ ?_
  | ((with_reducible show Op2 _ (rIx _) _ _ _ _); refine o_ix (.tup _) rfl ?_)
  | ((with_reducible show Op2 _ (rEqD _) _ _ _ _); (first | refine o_eqD (.dat _) (.dat _) rfl rfl ?_ | refine o_eqD (.dat _) (.dat _) (by decide +kernel) (by decide +kernel) ?_))
  | ((with_reducible show Op2 _ (rNeD _) _ _ _ _); (first | refine o_neD (.dat _) (.dat _) rfl rfl ?_ | refine o_neD (.dat _) (.dat _) (by decide +kernel) (by decide +kernel) ?_))
  | ((with_reducible show Op2 _ (rIn _ false) _ _ _ _); refine o_in (.tup _) (by rfl) (by rfl) ?_) | ((with_reducible show Op2 _ (rIn _ true) _ _ _ _); refine o_notIn (.tup _) (by rfl) (by rfl) ?_)
  | ((with_reducible show OpC _ (rIsi _) _ _ _); (first | refine oc_isi (b := true) (by rfl) ?_ | refine oc_isi (b := false) (by rfl) ?_))
  | ((with_reducible show OpC _ _ _ _ _); refine oc_len (.tup _) ?_)
  | ((with_reducible show Tg _ (gTup _ _ _) _ _ _ _); (first | with_reducible refine tg_pair ?_ | refine tg_tup rfl ?_)) | ((with_reducible show Tgs _ (gCons _ _) _ _ _ _); refine tgs_cons ?_) | ((with_reducible show Tgs _ gNil _ _ _ _); refine tgs_nil ?_)
  | ((with_reducible show ∃ ds, alld _ ds ∧ _); (first
    | refine ⟨[_, _, _], ⟨rfl, rfl, rfl, trivial⟩, Nat.le_of_ble_eq_true rfl, ?_⟩ | refine ⟨[_, _], ⟨rfl, rfl, trivial⟩, Nat.le_of_ble_eq_true rfl, ?_⟩ | refine ⟨[_], ⟨rfl, trivial⟩, Nat.le_of_ble_eq_true rfl, ?_⟩ | refine ⟨[], trivial, Nat.le_of_ble_eq_true rfl, ?_⟩
    | refine ⟨[_, _, _, _], ⟨rfl, rfl, rfl, rfl, trivial⟩, Nat.le_of_ble_eq_true rfl, ?_⟩ | refine ⟨[_, _, _, _, _], ⟨rfl, rfl, rfl, rfl, rfl, trivial⟩, Nat.le_of_ble_eq_true rfl, ?_⟩ | refine ⟨[_, _, _, _, _, _], ⟨rfl, rfl, rfl, rfl, rfl, rfl, trivial⟩, Nat.le_of_ble_eq_true rfl, ?_⟩
    | refine ⟨[_, _, _, _, _, _, _], ⟨rfl, rfl, rfl, rfl, rfl, rfl, rfl, trivial⟩, Nat.le_of_ble_eq_true rfl, ?_⟩))
  | ((with_reducible show (_ = true → _) ∧ (_ = false → _)); (first | refine pickT rfl ?_ | refine pickF rfl ?_))
  | ((with_reducible show ∃ _, Kn.dat (PyData.bool _) = Kn.dat (PyData.bool _) ∧ _); refine ⟨_, rfl, ?_⟩)
  | ((with_reducible show ∃ _, Kn.dat _ = Kn.dat _ ∧ _); refine ⟨_, rfl, ?_⟩) | fail))

/-! ### triples -/
structure V3 where
  x : Int
  y : Int
  z : Int
  deriving DecidableEq
abbrev V3.l (v : V3) : List Int := [v.x, v.y, v.z]
abbrev V3.d (v : V3) : PyData := .tuple [.int v.x, .int v.y, .int v.z]
def V3.dot (v u : V3) : Int := v.x * u.x + v.y * u.y + v.z * u.z
def V3.cross (v u : V3) : V3 := ⟨v.y * u.z - v.z * u.y, v.z * u.x - v.x * u.z, v.x * u.y - v.y * u.x⟩
def V3.neg (v : V3) : V3 := ⟨-v.x, -v.y, -v.z⟩
/-- all numbers below 2 ^ 64 in size -/
def V3.Sm (v : V3) : Prop := (-(2 ^ 64) < v.x ∧ v.x < 2 ^ 64) ∧ (-(2 ^ 64) < v.y ∧ v.y < 2 ^ 64) ∧ (-(2 ^ 64) < v.z ∧ v.z < 2 ^ 64)
def gI (a b : Int) : Int := ((Nat.gcd a.natAbs b.natAbs : Nat) : Int)
def gcdI (ns : List Int) : Int := ns.foldl gI 0
def lowI (ns : List Int) : List Int := ns.map (· / gcdI ns)
def negI (ns : List Int) : List Int := ns.map (- ·)
def firstI (ns : List Int) : List Int := match (lowI ns).find? (· ≠ 0) with
  | some n => if 0 < n then lowI ns else negI (lowI ns)
  | none => lowI ns
/-- a common divisor that // may take -/
def GOk (ns : List Int) : Prop := 0 < gcdI ns ∧ (gcdI ns).natAbs < 2 ^ 9000
theorem map_dat_at {ns : List Int} {i : Nat} {k : Kn} (h : ((ns.map PyData.int).map Kn.dat)[i]? = some k) : ∃ n, ns[i]? = some n ∧ k = .dat (.int n) := by
  rw [List.getElem?_map, List.getElem?_map] at h
  cases e : ns[i]? with
  | none => rw [e] at h; cases h
  | some n => rw [e] at h; cases h; exact ⟨n, rfl, rfl⟩
section
variable {P : Program} {w : World} {K : PySem.W.Frag} {mg : Str → Option Value} {base : Heap} {f : Addr} {fd : FuncData}

def w_sign : WT := fun ks O Φ => ∃ n : Int, ks = [.dat (.int n)] ∧ O = [] ∧ Φ (.dat (.int n.sign)) []
theorem sign_b2i (n : Int) : b2i (decide (0 < n)) - b2i (decide (n < 0)) = n.sign := by
  rcases Int.lt_trichotomy n 0 with h | h | h
  · rw [Int.sign_eq_neg_one_of_neg h, decide_eq_true h, decide_eq_false (by omega)]; rfl
  · subst h; rfl
  · rw [Int.sign_eq_one_of_pos h, decide_eq_true h, decide_eq_false (by omega)]; rfl
theorem cl_sign (F : Df K mg "sign" s_sign f fd) : Cl P w K mg base "sign" 1 1 w_sign := by
  have nd := sc_sign.nd
  refine cl_of 0 1 F sc_sign rfl (fun _ _ _ _ _ _ us hl => match us, hl with | [_], _ => rfl) fun cdv A outer s H E hr => ⟨_, (pss_one (ps_ret (pe_op op_subB (pe_cmpR op_gt (pv 0) pe_int (nomark _)) (pe_cmpR op_lt (pv 0) pe_int (nomark _))))), ?_⟩
  intro B ks O Φ hl ⟨n, e1, e2, q⟩
  subst e1 e2
  walk_at "sk"
  rw [sign_b2i]
  exact ⟨_, sub_nil _, q⟩

def w_dot : WT := fun ks O Φ => ∃ v u : V3, ks = [.dat v.d, .dat u.d] ∧ (v.Sm ∨ u.Sm) ∧ O = [] ∧ Φ (.dat (.int (v.dot u))) []
theorem cmul_x {v u : V3} (h : v.Sm ∨ u.Sm) : CMul v.x u.x := h.imp (fun s => s.1) fun s => s.1
theorem cmul_y {v u : V3} (h : v.Sm ∨ u.Sm) : CMul v.y u.y := h.imp (fun s => s.2.1) fun s => s.2.1
theorem cmul_z {v u : V3} (h : v.Sm ∨ u.Sm) : CMul v.z u.z := h.imp (fun s => s.2.2) fun s => s.2.2
theorem cl_dot (F : Df K mg "dot" s_dot f fd) : Cl P w K mg base "dot" 1 2 w_dot := by
  have nd := sc_dot.nd
  refine cl_of 0 2 F sc_dot rfl (fun _ _ _ _ _ _ us hl => match us, hl with | [_, _], _ => rfl) fun cdv A outer s H E hr => ⟨_, (pss_one (ps_ret (pe_op op_add (pe_op op_add (pe_op op_mul (pe_ix (kIx (K := K)) (pv 0) pe_int (fun _ _ => rfl)) (pe_ix (kIx (K := K)) (pv 1) pe_int (fun _ _ => rfl))) (pe_op op_mul (pe_ix (kIx (K := K)) (pv 0) pe_int (fun _ _ => rfl)) (pe_ix (kIx (K := K)) (pv 1) pe_int (fun _ _ => rfl)))) (pe_op op_mul (pe_ix (kIx (K := K)) (pv 0) pe_int (fun _ _ => rfl)) (pe_ix (kIx (K := K)) (pv 1) pe_int (fun _ _ => rfl)))))), ?_⟩
  intro B ks O Φ hl ⟨v, u, e1, hs, e2, q⟩
  subst e1 e2
  walk_at "sk"
  · exact cmul_x hs
  · exact cmul_y hs
  · exact cmul_z hs
  · exact ⟨_, sub_nil _, q⟩

def w_cross : WT := fun ks O Φ => ∃ v u : V3, ks = [.dat v.d, .dat u.d] ∧ (v.Sm ∨ u.Sm) ∧ O = [] ∧ Φ (.dat (v.cross u).d) []
theorem cl_cross (F : Df K mg "cross" s_cross f fd) : Cl P w K mg base "cross" 1 2 w_cross := by
  have nd := sc_cross.nd
  refine cl_of 0 2 F sc_cross rfl (fun _ _ _ _ _ _ us hl => match us, hl with | [_, _], _ => rfl) fun cdv A outer s H E hr => ⟨_, (pss_cons (ps_asg (pv 0) (kgTup (K := K) rfl (pgs_cons (pg_name (i := 2) nd rfl (Or.inl rfl)) (pgs_cons (pg_name (i := 3) nd rfl (Or.inl rfl)) (pgs_cons (pg_name (i := 4) nd rfl (Or.inl rfl)) pgs_nil)))))
      (pss_cons (ps_asg (pv 1) (kgTup (K := K) rfl (pgs_cons (pg_name (i := 5) nd rfl (Or.inl rfl)) (pgs_cons (pg_name (i := 6) nd rfl (Or.inl rfl)) (pgs_cons (pg_name (i := 7) nd rfl (Or.inl rfl)) pgs_nil)))))
      (pss_one (ps_ret (pe_tup (pa_cons (pe_op op_sub (pe_op op_mul (pv 3) (pv 7)) (pe_op op_mul (pv 4) (pv 6))) (pa_cons (pe_op op_sub (pe_op op_mul (pv 4) (pv 5)) (pe_op op_mul (pv 2) (pv 7))) (pa_cons (pe_op op_sub (pe_op op_mul (pv 2) (pv 6)) (pe_op op_mul (pv 3) (pv 5))) pa_nil)))))))), ?_⟩
  intro B ks O Φ hl ⟨v, u, e1, hs, e2, q⟩
  subst e1 e2
  walk_at "sk"
  · exact hs.imp (fun s => s.2.1) fun s => s.2.2
  · exact hs.imp (fun s => s.2.2) fun s => s.2.1
  · exact hs.imp (fun s => s.2.2) fun s => s.1
  · exact hs.imp (fun s => s.1) fun s => s.2.2
  · exact hs.imp (fun s => s.1) fun s => s.2.1
  · exact hs.imp (fun s => s.2.1) fun s => s.1
  · exact ⟨_, sub_nil _, q⟩

def w_negative : WT := fun ks O Φ => ∃ ns : List Int, ks = [.dat (tupI ns)] ∧ ns.length < 100000 ∧ O = [] ∧ Φ (.dat (tupI (negI ns))) []
theorem fm_some {α β : Type} (f : α → β) (l : List α) : l.filterMap (fun x => some (f x)) = l.map f := by
  induction l with
  | nil => rfl
  | cons a r ih => simp [ih]
theorem map_dat (ns : List Int) : (ns.map PyData.int).map Kn.dat = ns.map fun n => Kn.dat (.int n) := by rw [List.map_map]; rfl
theorem cl_negative (T : Bt mg) (F : Df K mg "negative" s_negative f fd) : Cl P w K mg base "negative" 1 1 w_negative := by
  have nd := sc_negative.nd
  refine cl_of 0 1 F sc_negative rfl (fun _ _ _ _ _ _ us hl => match us, hl with | [_], _ => rfl) fun cdv A outer s H E hr => ⟨_, (pss_one (ps_ret (pe_callTy (kTupleOf (K := K)) (by rfl) T.tuple_ (by decide +kernel) (pa_cons (pe_lc (own := [("number", 1)]) (g := gName 1) (by rfl) nd (kTup (K := K) (pv 0)) (blkOk_by (own := [("number", 1)]) (N := N_negative) (sc := defScope s_negative) (by decide +kernel)) (fun _ _ _ _ _ => (pg_name (i := 1) nd rfl (Or.inl rfl))) (fun _ _ _ _ _ => pts_nil) (fun _ _ _ _ _ => (pe_un un_neg (pv 1)))) pa_nil)))), ?_⟩
  intro B ks O Φ hl ⟨ns, e1, hz, e2, q⟩
  subst e1 e2
  walk_at "sk"
  refine ev_lcF (ei_tup (ev_var rfl ⟨_, rfl, Int, ns, fun n => .dat (.int n), fun n => some (.int (-n)), map_dat ns, hz, (fun q hq => nomatch hq), fun n _ => ?_, fun p => ?_⟩)) (own_name (by decide))
  · refine tg_name (et_yes ⟨fun _ => ?_, fun e => nomatch e⟩)
    walk_at "sk"
    exact ⟨rfl, sub_refl _⟩
  · walk_at "sk"
    refine oc_tuple (.lst (List.mem_cons_self ..)) ?_ ?_
    · rw [fm_some, List.length_map]; omega
    · rw [fm_some]
      refine ⟨_, sub_nil _, ?_⟩
      unfold negI at q
      unfold tupI at q
      rw [List.map_map] at q
      exact q

def w_common_divisor : WT := fun ks O Φ => ∃ ns : List Int, ks = [.dat (tupI ns)] ∧ O = [] ∧ Φ (.dat (.int (gcdI ns))) []
theorem cl_common_divisor (T : Bt mg) (F : Df K mg "common_divisor" s_common_divisor f fd) : Cl P w K mg base "common_divisor" 1 1 w_common_divisor := by
  have nd := sc_common_divisor.nd
  refine cl_of 0 1 F sc_common_divisor rfl (fun _ _ _ _ _ _ us hl => match us, hl with | [_], _ => rfl) fun cdv A outer s H E hr => ⟨_, (pss_cons (ps_set (i := 1) nd rfl (Or.inl rfl) pe_int)
      (pss_cons (ps_for PassesOwn.never rfl (kTup (K := K) (pv 0)) (pg_name (i := 2) nd rfl (Or.inl rfl)) (pss_one (ps_set (i := 1) nd rfl (Or.inl rfl) (pe_callBfun cr_gcd (by rfl) T.gcd_ (pa_cons (pv 1) (pa_cons (pv 2) pa_nil))))))
      (pss_one (ps_ret (pv 1))))), ?_⟩
  intro B ks O Φ hl ⟨ns, e1, e2, q⟩
  subst e1 e2
  walk_at "sk"
  refine sx_for (ei_tup (ev_var rfl ⟨_, rfl, fun i ρ' O' => O' = [] ∧ ∃ y, ρ' = [some (.dat (tupI ns)), some (.dat (.int (gcdI (ns.take i)))), y], ⟨rfl, _, rfl⟩, (fun _ _ _ _ _ q hq => nomatch hq), fun i k ρ' O' hk hI => ?_, fun ρ' O' hI => ?_⟩))
  · obtain ⟨rfl, y, rfl⟩ := hI
    obtain ⟨n, hn, rfl⟩ := map_dat_at hk
    walk_at "sk"
    refine oc_gcd ?_
    walk_at "sk"
    refine ⟨[], sub_nil _, rfl, some (.dat (.int n)), ?_⟩
    rw [List.take_add_one, hn]
    unfold gcdI
    simp only [Option.toList_some, List.foldl_append, List.foldl_cons, List.foldl_nil]
    rfl
  · obtain ⟨rfl, y, rfl⟩ := hI
    walk_at "sk"
    refine ⟨_, sub_nil _, ?_⟩
    rw [show ((ns.map PyData.int).map Kn.dat).length = ns.length by simp, List.take_length]
    exact q

def w_lowest : WT := fun ks O Φ => ∃ ns : List Int, ks = [.dat (tupI ns)] ∧ ns.length < 100000 ∧ GOk ns ∧ O = [] ∧ Φ (.dat (tupI (lowI ns))) []
theorem cl_lowest (T : Bt mg) (F : Df K mg "lowest" s_lowest f fd) (C_common_divisor : Cl P w K mg base "common_divisor" 1 1 w_common_divisor) : Cl P w K mg base "lowest" 2 1 w_lowest := by
  have nd := sc_lowest.nd
  refine cl_of 1 1 F sc_lowest rfl (fun _ _ _ _ _ _ us hl => match us, hl with | [_], _ => rfl) fun cdv A outer s H E hr => ⟨_, (pss_cons (ps_set (i := 1) nd rfl (Or.inr rfl) (pe_cl C_common_divisor (hr.mono (by decide)) (by rfl) (pa_cons (pv 0) pa_nil)))
      (pss_one (ps_ret (pe_callTy (kTupleOf (K := K)) (by rfl) T.tuple_ (by decide +kernel) (pa_cons (pe_lc (own := [("number", 2)]) (g := gName 2) (by rfl) nd (kTup (K := K) (pv 0)) (blkOk_by (own := [("number", 2)]) (N := N_lowest) (sc := defScope s_lowest) (by decide +kernel)) (fun _ _ _ _ _ => (pg_name (i := 2) nd rfl (Or.inl rfl))) (fun _ _ _ _ _ => pts_nil) (fun _ _ _ _ _ => (pe_op op_fdivW (pv 2) (pv 1)))) pa_nil))))), ?_⟩
  intro B ks O Φ hl ⟨ns, e1, hz, hg, e2, q⟩
  subst e1 e2
  walk_at "sk"
  refine ⟨rfl, callK0 ⟨ns, rfl, rfl, ?_⟩⟩
  walk_at "sk"
  refine ev_lcF (ei_tup (ev_var rfl ⟨_, rfl, Int, ns, fun n => .dat (.int n), fun n => some (.int (n / gcdI ns)), map_dat ns, hz, (fun q hq => nomatch hq), fun n _ => ?_, fun p => ?_⟩)) (own_name (by decide))
  · refine tg_name (et_yes ⟨fun _ => ?_, fun e => nomatch e⟩)
    walk_at "sk"
    refine o_fdivW ⟨hg.1, ?_⟩ ?_
    · exact PySem.Flt.log2_lt_of (by decide) hg.2
    · exact ⟨_, rfl, rfl, sub_refl _⟩
  · walk_at "sk"
    refine oc_tuple (.lst (List.mem_cons_self ..)) ?_ ?_
    · rw [fm_some, List.length_map]; omega
    · rw [fm_some]
      refine ⟨_, sub_nil _, ?_⟩
      unfold lowI at q
      unfold tupI at q
      rw [List.map_map] at q
      exact q

def w_first_above : WT := fun ks O Φ => ∃ ns : List Int, ks = [.dat (tupI ns)] ∧ ns.length < 100000 ∧ GOk ns ∧ O = [] ∧ Φ (.dat (tupI (firstI ns))) []
theorem find_take_none {p : Int → Bool} {l : List Int} {i : Nat} {n : Int} (h : (l.take i).find? p = none) (hn : l[i]? = some n) (hp : p n = true) : l.find? p = some n := by
  have e : l = l.take i ++ l.drop i := (List.take_append_drop i l).symm
  rw [e, List.find?_append, h]
  rw [List.drop_eq_getElem?_toList_append, hn]
  simp [hp]
theorem cl_first_above (T : Bt mg) (F : Df K mg "first_above" s_first_above f fd) (C_lowest : Cl P w K mg base "lowest" 2 1 w_lowest) : Cl P w K mg base "first_above" 3 1 w_first_above := by
  have nd := sc_first_above.nd
  refine cl_of 2 1 F sc_first_above rfl (fun _ _ _ _ _ _ us hl => match us, hl with | [_], _ => rfl) fun cdv A outer s H E hr => ⟨_, (pss_cons (ps_set (i := 1) nd rfl (Or.inl rfl) (pe_cl C_lowest (hr.mono (by decide)) (by rfl) (pa_cons (pv 0) pa_nil)))
      (pss_cons (ps_for PassesOwn.never rfl (kTup (K := K) (pv 1)) (pg_name (i := 2) nd rfl (Or.inl rfl)) (pss_one (ps_if (pt_cmpR (kNeD (K := K) hr.units) (pv 2) pe_int (nomark _)) (pss_one (ps_ret (pe_ifExp (pt_cmpR op_gt (pv 2) pe_int (nomark _)) (pv 1) (pe_callTy (kTupleOf (K := K)) (by rfl) T.tuple_ (by decide +kernel) (pa_cons (pe_lc (own := [("each", 3)]) (g := gName 3) (by rfl) nd (kTup (K := K) (pv 1)) (blkOk_by (own := [("each", 3)]) (N := N_first_above) (sc := defScope s_first_above) (by decide +kernel)) (fun _ _ _ _ _ => (pg_name (i := 3) nd rfl (Or.inl rfl))) (fun _ _ _ _ _ => pts_nil) (fun _ _ _ _ _ => (pe_un un_neg (pv 3)))) pa_nil))))) pss_nil)))
      (pss_one (ps_ret (pv 1))))), ?_⟩
  intro B ks O Φ hl ⟨ns, e1, hz, hg, e2, q⟩
  subst e1 e2
  walk_at "sk"
  refine ⟨rfl, callK0 ⟨ns, rfl, hz, hg, rfl, ?_⟩⟩
  walk_at "sk"
  refine sx_for (ei_tup (ev_var rfl ⟨_, rfl, fun i ρ' O' => O' = [] ∧ ((lowI ns).take i).find? (fun n => decide (n ≠ 0)) = none ∧ ∃ y, ρ' = [some (.dat (tupI ns)), some (.dat (tupI (lowI ns))), y, none], ⟨rfl, rfl, _, rfl⟩, (fun _ _ _ _ _ q hq => nomatch hq), fun i k ρ' O' hk hI => ?_, fun ρ' O' hI => ?_⟩))
  · obtain ⟨rfl, hno, y, rfl⟩ := hI
    obtain ⟨n, hn, rfl⟩ := map_dat_at hk
    walk_at "sk"
    have en : PyData.eqv (.int n) (.int 0) = (n == 0) := by simp only [PyData.eqv]
    refine ⟨fun hb => ?_, fun hb => ?_⟩
    · have h0 : n ≠ 0 := by
        rw [en] at hb
        simpa using hb
      have hf := find_take_none hno hn (decide_eq_true h0)
      walk_at "sk"
      refine ⟨fun hb => ?_, fun hb => ?_⟩
      · walk_at "sk"
        refine ⟨_, sub_nil _, ?_⟩
        unfold firstI at q
        rw [hf] at q
        simp only [of_decide_eq_true hb, if_true] at q
        exact q
      · walk_at "sk"
        refine ev_lcF (ei_tup (ev_var rfl ⟨_, rfl, Int, lowI ns, fun n => .dat (.int n), fun n => some (.int (-n)), map_dat _, by simp [lowI]; exact hz, (fun q hq => nomatch hq), fun n _ => ?_, fun p => ?_⟩)) (own_name (by decide))
        · refine tg_name (et_yes ⟨fun _ => ?_, fun e => nomatch e⟩)
          walk_at "sk"
          exact ⟨rfl, sub_refl _⟩
        · walk_at "sk"
          refine oc_tuple (.lst (List.mem_cons_self ..)) ?_ ?_
          · rw [fm_some, List.length_map]; simp [lowI]; omega
          · rw [fm_some]
            refine ⟨_, sub_nil _, ?_⟩
            unfold firstI at q
            rw [hf] at q
            simp only [of_decide_eq_false hb, if_false] at q
            unfold negI tupI at q
            rw [List.map_map] at q
            exact q
    · have h0 : n = 0 := by
        rw [en] at hb
        simpa using hb
      walk_at "sk"
      refine ⟨[], sub_nil _, rfl, ?_, some (.dat (.int n)), rfl⟩
      rw [List.take_add_one, hn, List.find?_append, hno, h0]
      rfl
  · obtain ⟨rfl, hno, y, rfl⟩ := hI
    rw [show ((((lowI ns).map PyData.int).map Kn.dat).length) = (lowI ns).length by simp, List.take_length] at hno
    walk_at "sk"
    refine ⟨_, sub_nil _, ?_⟩
    unfold firstI at q
    rw [hno] at q
    exact q
end
end Sk

/-! Ma1: triples of ints: gcd, lowest terms, signs, cross products. -/
namespace Sk

/-! ### gcd and lowest terms -/
def V3.nz (v : V3) : Prop := ¬ (v.x = 0 ∧ v.y = 0 ∧ v.z = 0)
instance (v : V3) : Decidable v.nz := inferInstanceAs (Decidable (¬ _))
def V3.g (v : V3) : Int := gcdI v.l
def V3.gN (v : V3) : Nat := Nat.gcd (Nat.gcd v.x.natAbs v.y.natAbs) v.z.natAbs
def V3.low (v : V3) : V3 := ⟨v.x / v.g, v.y / v.g, v.z / v.g⟩
def V3.sc (c : Int) (v : V3) : V3 := ⟨c * v.x, c * v.y, c * v.z⟩
def V3.add (v u : V3) : V3 := ⟨v.x + u.x, v.y + u.y, v.z + u.z⟩
theorem V3.ext' {v u : V3} (hx : v.x = u.x) (hy : v.y = u.y) (hz : v.z = u.z) : v = u := by
  cases v; cases u; simp_all
theorem V3.l_inj {v u : V3} (h : v.l = u.l) : v = u := by
  simp only [V3.l, List.cons.injEq, and_true] at h
  exact V3.ext' h.1 h.2.1 h.2.2
theorem V3.g_eq (v : V3) : v.g = (v.gN : Int) := by
  unfold V3.g gcdI V3.gN gI
  simp [Int.natAbs_natCast]
theorem V3.l_low (v : V3) : lowI v.l = v.low.l := rfl
theorem V3.l_neg (v : V3) : negI v.l = v.neg.l := rfl
theorem V3.gN_x (v : V3) : v.gN ∣ v.x.natAbs := Nat.dvd_trans (Nat.gcd_dvd_left _ _) (Nat.gcd_dvd_left _ _)
theorem V3.gN_y (v : V3) : v.gN ∣ v.y.natAbs := Nat.dvd_trans (Nat.gcd_dvd_left _ _) (Nat.gcd_dvd_right _ _)
theorem V3.gN_z (v : V3) : v.gN ∣ v.z.natAbs := Nat.gcd_dvd_right _ _
theorem V3.gN_dvd {v : V3} {d : Nat} (hx : d ∣ v.x.natAbs) (hy : d ∣ v.y.natAbs) (hz : d ∣ v.z.natAbs) : d ∣ v.gN := Nat.dvd_gcd (Nat.dvd_gcd hx hy) hz
theorem V3.g_x (v : V3) : v.g ∣ v.x := by rw [v.g_eq]; exact Int.ofNat_dvd_left.mpr v.gN_x
theorem V3.g_y (v : V3) : v.g ∣ v.y := by rw [v.g_eq]; exact Int.ofNat_dvd_left.mpr v.gN_y
theorem V3.g_z (v : V3) : v.g ∣ v.z := by rw [v.g_eq]; exact Int.ofNat_dvd_left.mpr v.gN_z
theorem V3.gN_pos {v : V3} (h : v.nz) : 0 < v.gN := by
  refine Nat.pos_of_ne_zero fun e => h ?_
  have h1 := v.gN_x
  have h2 := v.gN_y
  have h3 := v.gN_z
  rw [e] at h1 h2 h3
  rw [Nat.zero_dvd] at h1 h2 h3
  exact ⟨by omega, by omega, by omega⟩
theorem V3.g_pos {v : V3} (h : v.nz) : 0 < v.g := by
  rw [v.g_eq]
  have := V3.gN_pos h
  omega
theorem V3.g_zero {v : V3} (h : ¬ v.nz) : v.g = 0 := by
  have h : v.x = 0 ∧ v.y = 0 ∧ v.z = 0 := Classical.not_not.mp h
  rw [v.g_eq]
  unfold V3.gN
  simp [h.1, h.2.1, h.2.2]
theorem V3.sc_low (v : V3) : V3.sc v.g v.low = v := V3.ext' (Int.mul_ediv_cancel' v.g_x) (Int.mul_ediv_cancel' v.g_y) (Int.mul_ediv_cancel' v.g_z)
theorem V3.low_nz {v : V3} (h : v.nz) : v.low.nz := fun e => h (by
  have := v.sc_low
  rw [← this]
  unfold V3.sc
  simp [e.1, e.2.1, e.2.2])
/-- no common divisor -/
def V3.Prim (v : V3) : Prop := v.gN = 1
theorem V3.Prim.nz {v : V3} (h : v.Prim) : v.nz := fun e => by
  unfold V3.Prim V3.gN at h
  simp [e.1, e.2.1, e.2.2] at h
theorem V3.Prim.g {v : V3} (h : v.Prim) : v.g = 1 := by rw [v.g_eq, h]; rfl
theorem V3.prim_of {v : V3} (h : v.g = 1) : v.Prim := by
  rw [v.g_eq] at h
  exact_mod_cast h
theorem V3.low_prim {v : V3} (h : v.nz) : v.low.Prim := by
  have hp := V3.gN_pos h
  have e := v.sc_low
  have hx : v.x = v.g * v.low.x := by rw [← congrArg V3.x e]; rfl
  have hy : v.y = v.g * v.low.y := by rw [← congrArg V3.y e]; rfl
  have hz : v.z = v.g * v.low.z := by rw [← congrArg V3.z e]; rfl
  have nx : v.x.natAbs = v.gN * v.low.x.natAbs := by conv => lhs; rw [hx, Int.natAbs_mul, v.g_eq, Int.natAbs_natCast]
  have ny : v.y.natAbs = v.gN * v.low.y.natAbs := by conv => lhs; rw [hy, Int.natAbs_mul, v.g_eq, Int.natAbs_natCast]
  have nzz : v.z.natAbs = v.gN * v.low.z.natAbs := by conv => lhs; rw [hz, Int.natAbs_mul, v.g_eq, Int.natAbs_natCast]
  have hd : v.gN * v.low.gN ∣ v.gN := V3.gN_dvd (by rw [nx]; exact Nat.mul_dvd_mul_left _ v.low.gN_x) (by rw [ny]; exact Nat.mul_dvd_mul_left _ v.low.gN_y) (by rw [nzz]; exact Nat.mul_dvd_mul_left _ v.low.gN_z)
  have hle := Nat.le_of_dvd hp hd
  have hq : 0 < v.low.gN := V3.gN_pos (V3.low_nz h)
  have h1 : v.gN * v.low.gN ≤ v.gN * 1 := by omega
  have h2 := Nat.le_of_mul_le_mul_left h1 hp
  unfold V3.Prim
  omega
theorem V3.Prim.low {v : V3} (h : v.Prim) : v.low = v := by
  have e := v.sc_low
  rw [h.g] at e
  unfold V3.sc at e
  simpa using e
theorem V3.neg_neg (v : V3) : v.neg.neg = v := by unfold V3.neg; simp
theorem V3.neg_gN (v : V3) : v.neg.gN = v.gN := by unfold V3.neg V3.gN; simp
theorem V3.Prim.neg {v : V3} (h : v.Prim) : v.neg.Prim := by unfold V3.Prim; rw [V3.neg_gN]; exact h
theorem V3.nz.neg {v : V3} (h : v.nz) : v.neg.nz := fun e => h (by unfold V3.neg at e; simp at e; exact e)
theorem V3.neg_low {v : V3} (h : v.nz) : v.neg.low = v.low.neg := by
  have e : v.neg.g = v.g := by rw [V3.g_eq, V3.g_eq, V3.neg_gN]
  have hg := V3.g_pos h
  unfold V3.low
  rw [e]
  exact V3.ext' (Int.neg_ediv_of_dvd v.g_x) (Int.neg_ediv_of_dvd v.g_y) (Int.neg_ediv_of_dvd v.g_z)
theorem V3.gOk {v : V3} (h : v.nz) (hb : v.x.natAbs < 2 ^ 200 ∧ v.y.natAbs < 2 ^ 200 ∧ v.z.natAbs < 2 ^ 200) : GOk v.l := by
  refine ⟨V3.g_pos h, ?_⟩
  show v.g.natAbs < _
  rw [v.g_eq, Int.natAbs_natCast]
  have key : ∀ n : Nat, n ≠ 0 → v.gN ∣ n → n < 2 ^ 200 → v.gN < 2 ^ 9000 := fun n h0 hd hn => Nat.lt_of_le_of_lt (Nat.le_of_dvd (by omega) hd) (Nat.lt_of_lt_of_le hn (Nat.pow_le_pow_right (by decide) (by decide)))
  by_cases hx : v.x = 0
  · by_cases hy : v.y = 0
    · exact key _ (fun e => h ⟨hx, hy, by omega⟩) v.gN_z hb.2.2
    · exact key _ (by omega) v.gN_y hb.2.1
  · exact key _ (by omega) v.gN_x hb.1

/-! ### the first number above 0 -/
def V3.pos (v : V3) : Prop := 0 < v.x ∨ (v.x = 0 ∧ (0 < v.y ∨ (v.y = 0 ∧ 0 < v.z)))
instance (v : V3) : Decidable v.pos := inferInstanceAs (Decidable (_ ∨ _))
def V3.fst (v : V3) : V3 := if v.low.pos then v.low else v.low.neg
structure V3.Norm (v : V3) : Prop where
  pr : v.Prim
  ps : v.pos
theorem V3.pos_or {v : V3} (h : v.nz) : v.pos ∨ v.neg.pos := by
  unfold V3.nz at h
  unfold V3.pos V3.neg
  simp only
  omega
theorem V3.pos_not {v : V3} (h : v.pos) : ¬ v.neg.pos := by
  unfold V3.pos at *
  unfold V3.neg
  simp only
  omega
theorem V3.l_fst {v : V3} (h : v.nz) : firstI v.l = v.fst.l := by
  have hn := V3.low_nz h
  unfold firstI V3.fst
  rw [V3.l_low]
  unfold V3.nz at hn
  unfold V3.pos
  by_cases hx : v.low.x = 0
  · by_cases hy : v.low.y = 0
    · have hz : v.low.z ≠ 0 := fun e => hn ⟨hx, hy, e⟩
      have e : List.find? (fun x => decide (x ≠ 0)) v.low.l = some v.low.z := by simp [V3.l, hx, hy, hz]
      rw [e]
      by_cases h0 : 0 < v.low.z
      · simp [hx, hy, h0]
      · simp [hx, hy, h0, V3.l_neg]
    · have e : List.find? (fun x => decide (x ≠ 0)) v.low.l = some v.low.y := by simp [V3.l, hx, hy]
      rw [e]
      by_cases h0 : 0 < v.low.y
      · simp [hx, h0]
      · simp [hx, hy, h0, V3.l_neg]
  · have e : List.find? (fun x => decide (x ≠ 0)) v.low.l = some v.low.x := by simp [V3.l, hx]
    rw [e]
    by_cases h0 : 0 < v.low.x
    · simp [h0]
    · simp [hx, h0, V3.l_neg]
theorem V3.fst_norm {v : V3} (h : v.nz) : v.fst.Norm := by
  have hp := V3.low_prim h
  unfold V3.fst
  split
  · rename_i h0; exact ⟨hp, h0⟩
  · rename_i h0; exact ⟨hp.neg, (V3.pos_or hp.nz).resolve_left h0⟩
theorem V3.fst_or (v : V3) : v.low = v.fst ∨ v.low = v.fst.neg := by
  unfold V3.fst
  split
  · exact .inl rfl
  · exact .inr (V3.neg_neg _).symm
theorem V3.sc_g {r : V3} {c : Int} (h : r.Prim) : (V3.sc c r).gN = c.natAbs := by
  unfold V3.gN V3.sc
  simp only [Int.natAbs_mul]
  rw [Nat.gcd_mul_left, Nat.gcd_mul_left]
  rw [show (r.x.natAbs.gcd r.y.natAbs).gcd r.z.natAbs = 1 from h, Nat.mul_one]
theorem V3.sc_nz {r : V3} {c : Int} (h : r.nz) (hc : c ≠ 0) : (V3.sc c r).nz := fun e => h (by
  unfold V3.sc at e
  simp only at e
  exact ⟨(Int.mul_eq_zero.mp e.1).resolve_left hc, (Int.mul_eq_zero.mp e.2.1).resolve_left hc, (Int.mul_eq_zero.mp e.2.2).resolve_left hc⟩)
theorem V3.sc_low' {r : V3} {c : Int} (h : r.Prim) (hc : 0 < c) : (V3.sc c r).low = r := by
  have hg : (V3.sc c r).g = c := by rw [V3.g_eq, V3.sc_g h]; omega
  unfold V3.low
  rw [hg]
  have h0 : c ≠ 0 := by omega
  exact V3.ext' (Int.mul_ediv_cancel_left _ h0) (Int.mul_ediv_cancel_left _ h0) (Int.mul_ediv_cancel_left _ h0)
theorem V3.sc_neg (r : V3) (c : Int) : V3.sc c r = (V3.sc (-c) r).neg := by
  unfold V3.sc V3.neg
  simp only [Int.neg_mul, Int.neg_neg]
theorem V3.sc_fst {r : V3} {c : Int} (h : r.Norm) (hc : c ≠ 0) : (V3.sc c r).fst = r := by
  by_cases hp : 0 < c
  · unfold V3.fst
    rw [V3.sc_low' h.pr hp, if_pos h.ps]
  · have hn : 0 < -c := by omega
    unfold V3.fst
    rw [V3.sc_neg, V3.neg_low (V3.sc_nz h.pr.nz (by omega)), V3.sc_low' h.pr hn, if_neg (V3.pos_not h.ps), V3.neg_neg]
theorem V3.Norm.fst {r : V3} (h : r.Norm) : r.fst = r := by
  unfold V3.fst
  rw [h.pr.low, if_pos h.ps]

/-! ### signs -/
theorem V3.dot_sc (p v : V3) (c : Int) : p.dot (V3.sc c v) = c * p.dot v := by unfold V3.dot V3.sc; grind
theorem V3.sc_dot (p v : V3) (c : Int) : (V3.sc c p).dot v = c * p.dot v := by unfold V3.dot V3.sc; grind
theorem V3.dot_neg (p v : V3) : p.dot v.neg = - p.dot v := by unfold V3.dot V3.neg; grind
theorem V3.neg_dot (p v : V3) : p.neg.dot v = - p.dot v := by unfold V3.dot V3.neg; grind
theorem V3.dot_add (p v u : V3) : p.dot (v.add u) = p.dot v + p.dot u := by unfold V3.dot V3.add; grind
theorem V3.dot_comm (p v : V3) : p.dot v = v.dot p := by unfold V3.dot; grind
theorem sign_mul_pos {c n : Int} (hc : 0 < c) : (c * n).sign = n.sign := by rw [Int.sign_mul, Int.sign_eq_one_of_pos hc, Int.one_mul]
theorem V3.sign_low {p v : V3} (h : v.nz) : (p.dot v.low).sign = (p.dot v).sign := by
  conv => rhs; rw [← v.sc_low, V3.dot_sc]
  rw [sign_mul_pos (V3.g_pos h)]
theorem V3.low_dot {p v : V3} (h : v.nz) : (v.low.dot p).sign = (v.dot p).sign := by rw [V3.dot_comm, V3.sign_low h, V3.dot_comm]
/-- first by a, where a is 0 by b -/
def lex (a b : Int) : Int := if a ≠ 0 then a else b
theorem sign_near {t a b : Int} (h : (if b < 0 then -b else b) < t) : (t * a + b).sign = lex a.sign b.sign := by
  unfold lex
  rcases Int.lt_trichotomy a 0 with ha | ha | ha
  · rw [Int.sign_eq_neg_one_of_neg ha, if_pos (by decide)]
    refine Int.sign_eq_neg_one_of_neg ?_
    have : t * a ≤ t * (-1) := Int.mul_le_mul_of_nonneg_left (by omega) (by split at h <;> omega)
    split at h <;> omega
  · subst ha
    simp
  · rw [Int.sign_eq_one_of_pos ha, if_pos (by decide)]
    refine Int.sign_eq_one_of_pos ?_
    have : t * 1 ≤ t * a := Int.mul_le_mul_of_nonneg_left (by omega) (by split at h <;> omega)
    split at h <;> omega
theorem sign_zero_iff {n : Int} : n.sign = 0 ↔ n = 0 := Int.sign_eq_zero_iff_zero
theorem sign_cases (n : Int) : n.sign = -1 ∨ n.sign = 0 ∨ n.sign = 1 := by
  rcases Int.lt_trichotomy n 0 with h | h | h
  · exact .inl (Int.sign_eq_neg_one_of_neg h)
  · exact .inr (.inl (by rw [h]; rfl))
  · exact .inr (.inr (Int.sign_eq_one_of_pos h))
theorem lex_zero {a b : Int} : lex a b = 0 ↔ a = 0 ∧ b = 0 := by
  unfold lex
  by_cases h : a = 0
  · simp [h]
  · simp [h]

/-! ### cross products -/
theorem V3.dot_cross_self (p v : V3) : p.dot (p.cross v) = 0 := by unfold V3.dot V3.cross; grind
theorem V3.dot_cross_self' (p v : V3) : v.dot (p.cross v) = 0 := by unfold V3.dot V3.cross; grind
theorem V3.sq_pos {v : V3} (h : v.nz) : 0 < v.dot v := by
  have sq : ∀ a : Int, 0 ≤ a * a := fun a => by
    rcases Int.le_total 0 a with h | h
    · exact Int.mul_nonneg h h
    · exact Int.mul_nonneg_of_nonpos_of_nonpos h h
  have sq' : ∀ a : Int, a ≠ 0 → 0 < a * a := fun a h => by
    rcases Int.lt_or_gt_of_ne h with h | h
    · exact Int.mul_pos_of_neg_of_neg h h
    · exact Int.mul_pos h h
  unfold V3.dot
  have h1 := sq v.x
  have h2 := sq v.y
  have h3 := sq v.z
  by_cases hx : v.x = 0
  · by_cases hy : v.y = 0
    · have := sq' v.z (fun e => h ⟨hx, hy, e⟩)
      omega
    · have := sq' v.y hy
      omega
  · have := sq' v.x hx
    omega
theorem V3.cross_swap (p q : V3) : p.cross q = (q.cross p).neg := by unfold V3.cross V3.neg; simp only [V3.mk.injEq]; grind
/-- unlike planes: their cross is no null vector -/
theorem V3.cross_nz {p q : V3} (hp : p.Norm) (hq : q.Norm) (hne : p ≠ q) : (p.cross q).nz := by
  intro e
  unfold V3.cross at e
  simp only at e
  obtain ⟨e1, e2, e3⟩ := e
  -- a number c ≠ 0 of p and d ≠ 0 of q at the same place, d * p = c * q
  have key : ∀ c d : Int, 0 < c → 0 < d → d * p.x = c * q.x → d * p.y = c * q.y → d * p.z = c * q.z → False := fun c d hc hd hx hy hz => by
    have h1 : V3.sc d p = V3.sc c q := V3.ext' hx hy hz
    have h2 := congrArg V3.low h1
    rw [V3.sc_low' hp.pr hd, V3.sc_low' hq.pr hc] at h2
    exact hne h2
  have hpp := hp.ps
  have hqp := hq.ps
  unfold V3.pos at hpp hqp
  have z0 : ∀ {a b : Int}, a * b = 0 → a ≠ 0 → b = 0 := fun h h' => (Int.mul_eq_zero.mp h).resolve_left h'
  by_cases hpx : p.x = 0
  · have hqx : q.x = 0 := by
      rcases hqp with h | h
      · exfalso
        rw [hpx] at e2 e3
        have a1 : p.z = 0 := by
          have : q.x * p.z = 0 := by grind
          exact z0 this (by omega)
        have a2 : p.y = 0 := by
          have : q.x * p.y = 0 := by grind
          exact z0 this (by omega)
        omega
      · exact h.1
    by_cases hpy : p.y = 0
    · have hqy : q.y = 0 := by
        rw [hpx, hpy] at hpp
        rw [hpy] at e1
        have : p.z * q.y = 0 := by grind
        exact z0 this (by omega)
      exact key p.z q.z (by omega) (by omega) (by rw [hpx, hqx]; simp) (by rw [hpy, hqy]; simp) (by grind)
    · have hqy : q.y ≠ 0 := by
        intro h
        rw [h] at e1
        have : p.y * q.z = 0 := by grind
        have := z0 this hpy
        omega
      exact key p.y q.y (by omega) (by omega) (by rw [hpx, hqx]; simp) (by grind) (by grind)
  · have hqx : q.x ≠ 0 := by
      intro h
      rw [h] at e2 e3
      have a1 : q.z = 0 := by
        have : p.x * q.z = 0 := by grind
        exact z0 this hpx
      have a2 : q.y = 0 := by
        have : p.x * q.y = 0 := by grind
        exact z0 this hpx
      omega
    exact key p.x q.x (by omega) (by omega) (by grind) (by grind) (by grind)
/-- on the plane p beside a ray v of it no other plane is met -/
theorem V3.arc_one {p q v : V3} (hp : p.Norm) (hq : q.Norm) (hne : p ≠ q) (hv : v.nz) (h1 : p.dot v = 0) (h2 : q.dot v = 0) : q.dot (p.cross v) ≠ 0 := by
  intro h3
  have hc := V3.cross_nz hp hq hne
  have hs1 := V3.sq_pos hv
  have hs2 := V3.sq_pos hc
  have e : v.dot v * (p.cross q).dot (p.cross q) = v.dot (p.cross q) * v.dot (p.cross q) + (v.cross (p.cross q)).dot (v.cross (p.cross q)) := by
    generalize p.cross q = c
    unfold V3.dot V3.cross
    grind
  have e1 : v.dot (p.cross q) = 0 := by
    have : v.dot (p.cross q) = - q.dot (p.cross v) := by unfold V3.dot V3.cross; grind
    rw [this, h3]; rfl
  have e2 : v.cross (p.cross q) = ⟨p.x * q.dot v - q.x * p.dot v, p.y * q.dot v - q.y * p.dot v, p.z * q.dot v - q.z * p.dot v⟩ := by
    refine V3.ext' ?_ ?_ ?_ <;> (unfold V3.dot V3.cross; grind)
  have e3 : (v.cross (p.cross q)).dot (v.cross (p.cross q)) = 0 := by
    rw [e2, h1, h2]
    simp [V3.dot]
  rw [e1, e3] at e
  have := Int.mul_pos hs1 hs2
  omega
theorem V3.cross_nz' {p v : V3} (hp : p.nz) (hv : v.nz) (h : p.dot v = 0) : (p.cross v).nz := by
  intro e
  have hs1 := V3.sq_pos hp
  have hs2 := V3.sq_pos hv
  have e0 : p.dot p * v.dot v = p.dot v * p.dot v + (p.cross v).dot (p.cross v) := by
    unfold V3.dot V3.cross
    grind
  have e1 : (p.cross v).dot (p.cross v) = 0 := by
    unfold V3.dot
    rw [e.1, e.2.1, e.2.2]; rfl
  rw [h, e1] at e0
  have := Int.mul_pos hs1 hs2
  omega
end Sk

/-! Ma2: bounds; sign rows; corners, arcs, opens; what the cells are. -/
namespace Sk

/-! ### bounds -/
def V3.Bd (n : Nat) (v : V3) : Prop := v.x.natAbs < 2 ^ n ∧ v.y.natAbs < 2 ^ n ∧ v.z.natAbs < 2 ^ n
theorem V3.Bd.mono {m n : Nat} {v : V3} (h : v.Bd m) (l : m ≤ n) : v.Bd n := by
  have := Nat.pow_le_pow_right (n := 2) (by decide) l
  unfold V3.Bd at *
  omega
theorem V3.Bd.neg {n : Nat} {v : V3} (h : v.Bd n) : v.neg.Bd n := by
  unfold V3.Bd V3.neg at *
  simpa using h
theorem natAbs_ediv_le (a b : Int) (hd : b ∣ a) : (a / b).natAbs ≤ a.natAbs := by
  by_cases hb : b = 0
  · subst hb; simp
  · obtain ⟨c, rfl⟩ := hd
    rw [Int.mul_ediv_cancel_left _ hb, Int.natAbs_mul]
    exact Nat.le_mul_of_pos_left _ (by omega)
theorem V3.Bd.low {n : Nat} {v : V3} (h : v.Bd n) : v.low.Bd n :=
  ⟨Nat.lt_of_le_of_lt (natAbs_ediv_le _ _ v.g_x) h.1, Nat.lt_of_le_of_lt (natAbs_ediv_le _ _ v.g_y) h.2.1, Nat.lt_of_le_of_lt (natAbs_ediv_le _ _ v.g_z) h.2.2⟩
theorem mul_bd {a b : Nat} {x y : Int} (hx : x.natAbs < 2 ^ a) (hy : y.natAbs < 2 ^ b) : (x * y).natAbs < 2 ^ (a + b) := by
  rw [Int.natAbs_mul, Nat.pow_add]
  rcases Nat.eq_zero_or_pos y.natAbs with h | h
  · rw [h, Nat.mul_zero]
    exact Nat.mul_pos (Nat.pow_pos (by decide)) (Nat.pow_pos (by decide))
  · exact Nat.lt_of_lt_of_le (Nat.mul_lt_mul_of_pos_right hx h) (Nat.mul_le_mul_left _ (Nat.le_of_lt hy))
theorem V3.Bd.cross {a b : Nat} {p v : V3} (hp : p.Bd a) (hv : v.Bd b) : (p.cross v).Bd (a + b + 1) := by
  have m := fun {x y : Int} (hx : x.natAbs < 2 ^ a) (hy : y.natAbs < 2 ^ b) => mul_bd hx hy
  have e : 2 ^ (a + b + 1) = 2 ^ (a + b) + 2 ^ (a + b) := by rw [Nat.pow_succ]; omega
  have h1 := m hp.2.1 hv.2.2
  have h2 := m hp.2.2 hv.2.1
  have h3 := m hp.2.2 hv.1
  have h4 := m hp.1 hv.2.2
  have h5 := m hp.1 hv.2.1
  have h6 := m hp.2.1 hv.1
  unfold V3.Bd V3.cross
  simp only
  rw [e]
  generalize 2 ^ (a + b) = N at *
  omega
theorem V3.Bd.dot {a b : Nat} {p v : V3} (hp : p.Bd a) (hv : v.Bd b) : (p.dot v).natAbs < 2 ^ (a + b + 2) := by
  have m := fun {x y : Int} (hx : x.natAbs < 2 ^ a) (hy : y.natAbs < 2 ^ b) => mul_bd hx hy
  have e : 2 ^ (a + b + 2) = 4 * 2 ^ (a + b) := by rw [Nat.pow_add]; omega
  have h1 := m hp.1 hv.1
  have h2 := m hp.2.1 hv.2.1
  have h3 := m hp.2.2 hv.2.2
  unfold V3.dot
  rw [e]
  generalize 2 ^ (a + b) = N at *
  omega
theorem V3.Bd.near {a b c : Nat} {t : Int} {v s : V3} (ht : t.natAbs < 2 ^ c) (hv : v.Bd a) (hs : s.Bd b) (h : b ≤ c + a) : (V3.add (V3.sc t v) s).Bd (c + a + 1) := by
  have e : 2 ^ (c + a + 1) = 2 ^ (c + a) + 2 ^ (c + a) := by rw [Nat.pow_succ]; omega
  have hs := hs.mono h
  have h1 := mul_bd ht hv.1
  have h2 := mul_bd ht hv.2.1
  have h3 := mul_bd ht hv.2.2
  unfold V3.Bd V3.add V3.sc at *
  simp only
  rw [e]
  generalize 2 ^ (c + a) = N at *
  omega
theorem V3.Bd.sm {n : Nat} {v : V3} (h : v.Bd n) (hn : n ≤ 64) : v.Sm := by
  have h := h.mono hn
  unfold V3.Bd at h
  unfold V3.Sm
  omega
theorem V3.Bd.gOk {n : Nat} {v : V3} (h : v.Bd n) (hn : n ≤ 200) (h0 : v.nz) : GOk v.l := V3.gOk h0 (h.mono hn)

/-! ### rows of signs -/
abbrev Rw := List Int
def sg (P : List V3) (v : V3) : Rw := P.map fun p => (p.dot v).sign
def comb (a b : Rw) : Rw := List.zipWith lex a b
theorem sg_len (P : List V3) (v : V3) : (sg P v).length = P.length := List.length_map ..
theorem sg_low {P : List V3} {v : V3} (h : v.nz) : sg P v.low = sg P v := List.map_congr_left fun p _ => V3.sign_low h
theorem sg_eq_at {P : List V3} {v u : V3} (h : sg P v = sg P u) {p : V3} (hp : p ∈ P) : (p.dot v).sign = (p.dot u).sign := by
  unfold sg at h
  exact (List.map_inj_left.mp h) p hp
theorem sg_zero_at {P : List V3} {v u : V3} (h : sg P v = sg P u) {p : V3} (hp : p ∈ P) (h0 : p.dot v = 0) : p.dot u = 0 := by
  have := sg_eq_at h hp
  rw [h0] at this
  exact sign_zero_iff.mp this.symm
theorem comb_sg (P : List V3) (v u : V3) : comb (sg P v) (sg P u) = P.map fun p => lex (p.dot v).sign (p.dot u).sign := by
  unfold comb sg
  rw [List.zipWith_map]
  induction P with
  | nil => rfl
  | cons p P ih => simp [ih]
/-- a number's size -/
def ab (n : Int) : Int := if n < 0 then -n else n
theorem ab_lt {n t : Int} (h : n.natAbs < t.natAbs) (ht : 0 ≤ t) : ab n < t := by unfold ab; split <;> omega
theorem sg_near {P : List V3} {v s : V3} {t : Int} (h : ∀ p ∈ P, ab (p.dot s) < t) : sg P (V3.add (V3.sc t v) s) = comb (sg P v) (sg P s) := by
  rw [comb_sg]
  refine List.map_congr_left fun p hp => ?_
  rw [V3.dot_add, V3.dot_sc]
  exact sign_near (h p hp)
theorem near_nz {v s : V3} {t : Int} (hv : v.nz) (h : v.dot s = 0) (ht : 0 < t) : (V3.add (V3.sc t v) s).nz := by
  intro e
  have e2 : v.dot (V3.add (V3.sc t v) s) = 0 := by
    unfold V3.dot
    rw [e.1, e.2.1, e.2.2]
    simp
  rw [V3.dot_add, V3.dot_sc, h] at e2
  have := Int.mul_pos ht (V3.sq_pos hv)
  omega
/-- beside v, towards s -/
def Near (P : List V3) (v s r : V3) : Prop := ∃ t : Int, 0 < t ∧ (∀ p ∈ P, ab (p.dot s) < t) ∧ r = (V3.add (V3.sc t v) s).low
theorem Near.sg {P : List V3} {v s r : V3} (h : Near P v s r) (hv : v.nz) (h0 : v.dot s = 0) : sg P r = comb (sg P v) (sg P s) := by
  obtain ⟨t, ht, hb, rfl⟩ := h
  rw [sg_low (near_nz hv h0 ht), sg_near hb]
theorem Near.prim {P : List V3} {v s r : V3} (h : Near P v s r) (hv : v.nz) (h0 : v.dot s = 0) : r.Prim := by
  obtain ⟨t, ht, hb, rfl⟩ := h
  exact V3.low_prim (near_nz hv h0 ht)

/-! ### planes -/
structure Pl (P : List V3) : Prop where
  nd : P.Nodup
  nm : ∀ p ∈ P, p.Norm
  bd : ∀ p ∈ P, p.Bd 12
  le : P.length ≤ 5
def Cor (P : List V3) (v : V3) : Prop := ∃ p ∈ P, ∃ q ∈ P, p ≠ q ∧ (v = (p.cross q).low ∨ v = (p.cross q).low.neg)
section
variable {P : List V3} {p q v s r : V3} {a k : Rw}
theorem Cor.prim (hP : Pl P) (h : Cor P v) : v.Prim := by
  obtain ⟨p, hp, q, hq, hne, h⟩ := h
  have := V3.low_prim (V3.cross_nz (hP.nm p hp) (hP.nm q hq) hne)
  rcases h with rfl | rfl
  · exact this
  · exact this.neg
theorem Cor.bd (hP : Pl P) (h : Cor P v) : v.Bd 25 := by
  obtain ⟨p, hp, q, hq, hne, h⟩ := h
  have := ((hP.bd p hp).cross (hP.bd q hq)).low
  rcases h with rfl | rfl
  · exact this
  · exact this.neg
theorem Cor.neg (h : Cor P v) : Cor P v.neg := by
  obtain ⟨p, hp, q, hq, hne, h⟩ := h
  refine ⟨p, hp, q, hq, hne, ?_⟩
  rcases h with rfl | rfl
  · exact .inr rfl
  · exact .inl (V3.neg_neg _)
theorem zero_low (h : v.nz) : p.dot v.low = 0 ↔ p.dot v = 0 := by rw [← sign_zero_iff (n := p.dot v.low), V3.sign_low h, sign_zero_iff]
/-- a corner lies on two planes -/
theorem Cor.two (hP : Pl P) (h : Cor P v) : ∃ p ∈ P, ∃ q ∈ P, p ≠ q ∧ p.dot v = 0 ∧ q.dot v = 0 := by
  obtain ⟨p, hp, q, hq, hne, h⟩ := h
  have hz := V3.cross_nz (hP.nm p hp) (hP.nm q hq) hne
  have h1 : p.dot (p.cross q).low = 0 := (zero_low hz).mpr (V3.dot_cross_self p q)
  have h2 : q.dot (p.cross q).low = 0 := (zero_low hz).mpr (V3.dot_cross_self' p q)
  refine ⟨p, hp, q, hq, hne, ?_⟩
  rcases h with rfl | rfl
  · exact ⟨h1, h2⟩
  · rw [V3.dot_neg, V3.dot_neg, h1, h2]; exact ⟨rfl, rfl⟩
/-- an arc's signs -/
def Arc (P : List V3) (p : V3) (a : Rw) : Prop := p ∈ P ∧ ∃ v s, Cor P v ∧ p.dot v = 0 ∧ (s = p.cross v ∨ s = (p.cross v).neg) ∧ a = comb (sg P v) (sg P s)
/-- the cells of two planes or more -/
def KK (P : List V3) (k : Rw) : Prop := (∃ v, Cor P v ∧ k = sg P v) ∨ (∃ p, Arc P p k) ∨ ∃ p a n, Arc P p a ∧ (n = p ∨ n = p.neg) ∧ k = comb a (sg P n)
theorem step_perp (h : s = p.cross v ∨ s = (p.cross v).neg) : v.dot s = 0 := by
  rcases h with rfl | rfl
  · exact V3.dot_cross_self' p v
  · rw [V3.dot_neg, V3.dot_cross_self']; rfl
theorem step_zero (h : s = p.cross v ∨ s = (p.cross v).neg) : p.dot s = 0 := by
  rcases h with rfl | rfl
  · exact V3.dot_cross_self p v
  · rw [V3.dot_neg, V3.dot_cross_self]; rfl
theorem step_ne (h : s = p.cross v ∨ s = (p.cross v).neg) (hq : q.dot (p.cross v) ≠ 0) : q.dot s ≠ 0 := by
  rcases h with rfl | rfl
  · exact hq
  · rw [V3.dot_neg]; omega
/-- a ray with an arc's signs lies on that plane alone -/
theorem Arc.one (hP : Pl P) (h : Arc P p a) (e : a = sg P r) (hq : q ∈ P) (h0 : q.dot r = 0) : q = p := by
  obtain ⟨hp, v, s, hv, hpv, hs, ea⟩ := h
  refine Classical.byContradiction fun hne => ?_
  rw [comb_sg, e] at ea
  have ea : (q.dot r).sign = lex (q.dot v).sign (q.dot s).sign := (List.map_inj_left.mp ea) q hq
  rw [h0] at ea
  obtain ⟨h1, h2⟩ := lex_zero.mp (show lex _ _ = 0 from ea.symm)
  exact step_ne hs (V3.arc_one (hP.nm p hp) (hP.nm q hq) (fun e => hne e.symm) (hv.prim hP).nz hpv (sign_zero_iff.mp h1)) (sign_zero_iff.mp h2)
theorem Arc.on (h : Arc P p a) (e : a = sg P r) : p.dot r = 0 := by
  obtain ⟨hp, v, s, hv, hpv, hs, ea⟩ := h
  rw [comb_sg, e] at ea
  have ea : (p.dot r).sign = lex (p.dot v).sign (p.dot s).sign := (List.map_inj_left.mp ea) p hp
  rw [hpv, step_zero hs] at ea
  exact sign_zero_iff.mp ea
theorem Arc.not_cor (hP : Pl P) (h : Arc P p a) (hv : Cor P v) : a ≠ sg P v := fun e => by
  obtain ⟨p1, h1, q1, h2, hne, z1, z2⟩ := hv.two hP
  have e1 := h.one hP e h1 z1
  have e2 := h.one hP e h2 z2
  exact hne (e1.trans e2.symm)
/-- a ray on one plane alone -/
structure Ray1 (P : List V3) (p r : V3) : Prop where
  mem : p ∈ P
  pr : r.Prim
  on : p.dot r = 0
  one : ∀ q ∈ P, q.dot r = 0 → q = p
  bd : r.Bd 100
theorem Ray1.opn (hP : Pl P) (h : Ray1 P p r) {n b : V3} (hn : n = p ∨ n = p.neg) (e : sg P b = comb (sg P r) (sg P n)) (hq : q ∈ P) : q.dot b ≠ 0 := fun h0 => by
  rw [comb_sg] at e
  have e : (q.dot b).sign = lex (q.dot r).sign (q.dot n).sign := (List.map_inj_left.mp e) q hq
  rw [h0] at e
  obtain ⟨h1, h2⟩ := lex_zero.mp (show lex _ _ = 0 from e.symm)
  have hqp := h.one q hq (sign_zero_iff.mp h1)
  subst hqp
  have hs := V3.sq_pos (hP.nm q hq).pr.nz
  have h2 := sign_zero_iff.mp h2
  rcases hn with rfl | rfl
  · omega
  · rw [V3.dot_neg] at h2; omega
theorem Ray1.perp (h : Ray1 P p r) {n : V3} (hn : n = p ∨ n = p.neg) : r.dot n = 0 := by
  rcases hn with rfl | rfl
  · rw [V3.dot_comm]; exact h.on
  · rw [V3.dot_neg, V3.dot_comm, h.on]; rfl
end
/-! ### nodup rows -/
theorem nodup_le {α : Type} [DecidableEq α] : ∀ {l m : List α}, l.Nodup → (∀ x ∈ l, x ∈ m) → l.length ≤ m.length
  | [], _, _, _ => Nat.zero_le _
  | a :: l, m, hn, hs => by
    obtain ⟨h1, h2⟩ := List.nodup_cons.mp hn
    have hm := hs a (List.mem_cons_self ..)
    have ih := nodup_le (l := l) (m := m.erase a) h2 fun x hx => (List.mem_erase_of_ne (fun e => h1 (by rw [← e]; exact hx))).mpr (hs x (List.mem_cons_of_mem _ hx))
    have e : (m.erase a).length + 1 = m.length := by
      rw [List.length_erase_of_mem hm]
      have := List.length_pos_of_mem hm
      omega
    rw [List.length_cons]
    omega
def allRw : Nat → List Rw
  | 0 => [[]]
  | n + 1 => (allRw n).flatMap fun r => [-1 :: r, 0 :: r, 1 :: r]
theorem allRw_len : ∀ n, (allRw n).length = 3 ^ n
  | 0 => rfl
  | n + 1 => by
    unfold allRw
    rw [List.length_flatMap]
    have : (List.map (fun r : Rw => ([-1 :: r, 0 :: r, 1 :: r] : List Rw).length) (allRw n)) = List.replicate (3 ^ n) 3 := by
      refine List.eq_replicate_iff.mpr ⟨by rw [List.length_map, allRw_len n], fun b hb => ?_⟩
      obtain ⟨_, _, rfl⟩ := List.mem_map.mp hb
      rfl
    rw [this, List.sum_replicate_nat, Nat.pow_succ]
theorem mem_allRw : ∀ {k : Rw}, (∀ x ∈ k, x = -1 ∨ x = 0 ∨ x = 1) → k ∈ allRw k.length
  | [], _ => by simp [allRw]
  | x :: k, h => by
    have ih := mem_allRw (k := k) fun y hy => h y (List.mem_cons_of_mem _ hy)
    show x :: k ∈ (allRw k.length).flatMap _
    refine List.mem_flatMap.mpr ⟨k, ih, ?_⟩
    rcases h x (List.mem_cons_self ..) with e | e | e <;> simp [e]
theorem sg_signs (P : List V3) (v : V3) : ∀ x ∈ sg P v, x = -1 ∨ x = 0 ∨ x = 1 := fun x hx => by
  obtain ⟨p, _, rfl⟩ := List.mem_map.mp hx
  exact sign_cases _
/-- few rows of signs -/
theorem rows_few {P : List V3} {ks : List Rw} (h5 : P.length ≤ 5) (hn : ks.Nodup) (h : ∀ k ∈ ks, ∃ r, k = sg P r) : ks.length ≤ 243 := by
  refine Nat.le_trans (nodup_le (m := allRw P.length) hn fun k hk => ?_) ?_
  · obtain ⟨r, rfl⟩ := h k hk
    have := mem_allRw (sg_signs P r)
    rwa [sg_len] at this
  · rw [allRw_len]
    exact Nat.le_trans (Nat.pow_le_pow_right (by decide) h5) (by decide)
end Sk

/-! Ma3: sorted rows; dicts of cells and how the program fills them. -/
namespace Sk
open PySem

/-! ### sorted rows of ints -/
theorem le_encI : PySem.W.dataLe false Nw.encI = fun (p q : List Int) => decide (p ≤ q) := by
  funext p q
  show (!PySem.W.dataLt (.tuple (q.map .int)) (.tuple (p.map .int))) = _
  show (!PySem.W.rowLt (q.map .int) (p.map .int)) = _
  rw [PySem.W.dataLt_ints]
  by_cases h : q < p
  · have h' : ¬ p ≤ q := fun r => List.not_lt.mpr r h
    simp [h, h']
  · have h' : p ≤ q := List.not_lt.mp h
    simp [h, h']
theorem mem_sortI {ks : List Rw} {k : Rw} : k ∈ Nw.sortI ks ↔ k ∈ ks := (List.mergeSort_perm ks _).mem_iff
theorem sortI_nodup {ks : List Rw} (h : ks.Nodup) : (Nw.sortI ks).Nodup := (List.mergeSort_perm ks _).nodup_iff.mpr h
theorem sortI_length {ks : List Rw} : (Nw.sortI ks).length = ks.length := List.length_mergeSort _
theorem sortI_eq {ks ls : List Rw} (h1 : ks.Nodup) (h2 : ls.Nodup) (h : ∀ k, k ∈ ks ↔ k ∈ ls) : Nw.sortI ks = Nw.sortI ls := by
  have tr : ∀ a b c : Rw, PySem.W.dataLe false Nw.encI a b = true → PySem.W.dataLe false Nw.encI b c = true → PySem.W.dataLe false Nw.encI a c = true := fun a b c => by
    rw [le_encI]
    simp only [decide_eq_true_eq]
    exact List.le_trans
  have to : ∀ a b : Rw, (PySem.W.dataLe false Nw.encI a b || PySem.W.dataLe false Nw.encI b a) = true := fun a b => by
    rw [le_encI]
    simp only [Bool.or_eq_true, decide_eq_true_eq]
    exact List.le_total a b
  refine List.Perm.eq_of_pairwise (le := fun a b => PySem.W.dataLe false Nw.encI a b = true) (fun a b _ _ hab hba => ?_) (List.pairwise_mergeSort tr to _) (List.pairwise_mergeSort tr to _) ?_
  · rw [le_encI] at hab hba
    simp only [decide_eq_true_eq] at hab hba
    exact List.le_antisymm hab hba
  · exact (List.mergeSort_perm ks _).trans (((List.perm_ext_iff_of_nodup h1 h2).mpr h).trans (List.mergeSort_perm ls _).symm)

/-! ### dicts -/
abbrev Kv := List (Rw × PyData)
def keys (kvs : Kv) : List Rw := kvs.map (·.1)
theorem any_keys {kvs : Kv} {k : Rw} : (kvs.any fun kv => decide (kv.1 = k)) = true ↔ k ∈ keys kvs := by
  rw [List.any_eq_true]
  unfold keys
  rw [List.mem_map]
  constructor
  · rintro ⟨x, hx, e⟩; exact ⟨x, hx, of_decide_eq_true e⟩
  · rintro ⟨x, hx, e⟩; exact ⟨x, hx, decide_eq_true e⟩
theorem keys_put {kvs : Kv} {k : Rw} {d : PyData} : keys (put kvs k d) = if k ∈ keys kvs then keys kvs else keys kvs ++ [k] := by
  unfold put
  by_cases h : k ∈ keys kvs
  · rw [if_pos (any_keys.mpr h), if_pos h]
    unfold keys
    rw [List.map_map]
    refine List.map_congr_left fun kv _ => ?_
    simp only [Function.comp]
    split <;> rfl
  · rw [if_neg (fun e => h (any_keys.mp e)), if_neg h]
    unfold keys
    rw [List.map_append]; rfl
theorem mem_keys_put {kvs : Kv} {k j : Rw} {d : PyData} : j ∈ keys (put kvs k d) ↔ j ∈ keys kvs ∨ j = k := by
  rw [keys_put]
  split
  · rename_i h
    constructor
    · exact .inl
    · rintro (h1 | rfl)
      · exact h1
      · exact h
  · rw [List.mem_append, List.mem_singleton]
theorem nodup_put {kvs : Kv} {k : Rw} {d : PyData} (h : (keys kvs).Nodup) : (keys (put kvs k d)).Nodup := by
  rw [keys_put]
  split
  · exact h
  · rename_i hk
    refine List.nodup_append.mpr ⟨h, by simp, fun a ha b hb e => ?_⟩
    rw [List.mem_singleton] at hb
    subst hb e
    exact hk ha
theorem mem_put {kvs : Kv} {k : Rw} {d : PyData} {kv : Rw × PyData} (h : kv ∈ put kvs k d) : kv ∈ kvs ∨ kv = (k, d) := by
  unfold put at h
  split at h
  · obtain ⟨x, hx, e⟩ := List.mem_map.mp h
    by_cases hk : x.1 = k
    · rw [if_pos hk] at e
      subst e
      exact .inr (by rw [hk])
    · rw [if_neg hk] at e
      subst e
      exact .inl hx
  · rcases List.mem_append.mp h with h | h
    · exact .inl h
    · exact .inr (List.mem_singleton.mp h)
theorem find_key {kvs : Kv} {k : Rw} : (∃ kv, kvs.find? (fun kv => decide (kv.1 = k)) = some kv ∧ kv ∈ kvs ∧ kv.1 = k) ∨ (kvs.find? (fun kv => decide (kv.1 = k)) = none ∧ k ∉ keys kvs) := by
  cases h : kvs.find? (fun kv => decide (kv.1 = k)) with
  | some kv => exact .inl ⟨kv, rfl, List.mem_of_find?_eq_some h, of_decide_eq_true (List.find?_some (p := fun (kv : Rw × PyData) => decide (kv.1 = k)) h)⟩
  | none =>
    refine .inr ⟨rfl, fun hk => ?_⟩
    obtain ⟨kv, hm, e⟩ := List.mem_map.mp hk
    have := List.find?_eq_none.mp h kv hm
    simp [e] at this
theorem look_some {kvs : Kv} {k : Rw} (h : k ∈ keys kvs) : ∃ d, look kvs k = some d ∧ (k, d) ∈ kvs := by
  rcases find_key (kvs := kvs) (k := k) with ⟨kv, e, hm, ek⟩ | ⟨_, hn⟩
  · refine ⟨kv.2, by unfold look; rw [e]; rfl, ?_⟩
    rw [← ek]
    exact hm
  · exact absurd h hn
theorem look_isSome {kvs : Kv} {k : Rw} : (look kvs k).isSome = true ↔ k ∈ keys kvs := by
  constructor
  · intro h
    rcases find_key (kvs := kvs) (k := k) with ⟨kv, e, hm, ek⟩ | ⟨e, hn⟩
    · rw [← ek]; exact List.mem_map.mpr ⟨kv, hm, rfl⟩
    · unfold look at h
      rw [e] at h
      cases h
  · intro h
    obtain ⟨d, e, _⟩ := look_some h
    rw [e]; rfl
theorem putD_old {kvs : Kv} {k : Rw} {d : PyData} (h : k ∈ keys kvs) : putD kvs k d = kvs := by
  obtain ⟨e, h1, _⟩ := look_some h
  unfold putD
  rw [h1]
theorem putD_new {kvs : Kv} {k : Rw} {d : PyData} (h : k ∉ keys kvs) : putD kvs k d = put kvs k d := by
  unfold putD
  cases e : look kvs k with
  | none => rfl
  | some x => exact absurd (look_isSome.mp (by rw [e]; rfl)) h
theorem mem_keys_putD {kvs : Kv} {k j : Rw} {d : PyData} : j ∈ keys (putD kvs k d) ↔ j ∈ keys kvs ∨ j = k := by
  by_cases h : k ∈ keys kvs
  · rw [putD_old h]
    constructor
    · exact .inl
    · rintro (h1 | rfl)
      · exact h1
      · exact h
  · rw [putD_new h, mem_keys_put]
theorem nodup_putD {kvs : Kv} {k : Rw} {d : PyData} (h : (keys kvs).Nodup) : (keys (putD kvs k d)).Nodup := by
  by_cases hk : k ∈ keys kvs
  · rw [putD_old hk]; exact h
  · rw [putD_new hk]; exact nodup_put h
theorem mem_putD {kvs : Kv} {k : Rw} {d : PyData} {kv : Rw × PyData} (h : kv ∈ putD kvs k d) : kv ∈ kvs ∨ kv = (k, d) := by
  by_cases hk : k ∈ keys kvs
  · rw [putD_old hk] at h; exact .inl h
  · rw [putD_new hk] at h; exact mem_put h

/-! ### dicts of cells -/
/-- a ray that may be stored -/
structure RayOk (r : V3) : Prop where
  pr : r.Prim
  bd : r.Bd 150
/-- each key is what its ray shows -/
structure RC (P : List V3) (kvs : Kv) : Prop where
  nd : (keys kvs).Nodup
  ray : ∀ kv ∈ kvs, ∃ r : V3, kv.2 = r.d ∧ RayOk r ∧ kv.1 = sg P r
section
variable {P : List V3} {kvs : Kv}
theorem RC.few (h : RC P kvs) (h5 : P.length ≤ 5) : kvs.length ≤ 243 := by
  have := rows_few h5 h.nd (fun k hk => by
    obtain ⟨kv, hm, rfl⟩ := List.mem_map.mp hk
    obtain ⟨r, _, _, e⟩ := h.ray kv hm
    exact ⟨r, e⟩)
  rwa [keys, List.length_map] at this
theorem RC.nil : RC P [] := ⟨List.nodup_nil, fun _ h => nomatch h⟩
theorem RC.put (h : RC P kvs) {r : V3} (hr : RayOk r) : RC P (put kvs (sg P r) r.d) :=
  ⟨nodup_put h.nd, fun kv hm => (mem_put hm).elim (h.ray kv) fun e => by subst e; exact ⟨r, rfl, hr, rfl⟩⟩
theorem RC.putD (h : RC P kvs) {r : V3} (hr : RayOk r) : RC P (putD kvs (sg P r) r.d) :=
  ⟨nodup_putD h.nd, fun kv hm => (mem_putD hm).elim (h.ray kv) fun e => by subst e; exact ⟨r, rfl, hr, rfl⟩⟩
theorem RC.at (h : RC P kvs) {k : Rw} (hk : k ∈ keys kvs) : ∃ r : V3, look kvs k = some r.d ∧ RayOk r ∧ k = sg P r := by
  obtain ⟨d, e, hm⟩ := look_some hk
  obtain ⟨r, e1, h1, h2⟩ := h.ray _ hm
  exact ⟨r, by rw [e, ← e1], h1, h2⟩
end
/-- which cells there are -/
def KS (P : List V3) (k : Rw) : Prop := match P.length with
  | 0 => k = []
  | 1 => k = [0] ∨ k = [1] ∨ k = [-1]
  | _ => KK P k
structure CellsOk (P : List V3) (kvs : Kv) : Prop where
  rc : RC P kvs
  ks : ∀ k, k ∈ keys kvs ↔ KS P k
/-- the cells in order -/
def SC (P : List V3) (L : List Rw) : Prop := ∃ kvs, CellsOk P kvs ∧ L = Nw.sortI (keys kvs)
theorem SC.eq {P : List V3} {L L' : List Rw} (h : SC P L) (h' : SC P L') : L = L' := by
  obtain ⟨kvs, c, rfl⟩ := h
  obtain ⟨kvs', c', rfl⟩ := h'
  exact sortI_eq c.rc.nd c'.rc.nd fun k => (c.ks k).trans (c'.ks k).symm

/-! ### how the program fills them -/
def Opn (p n : V3) : Prop := n = p ∨ n = p.neg
structure Found (P : List V3) (done : List (V3 × V3)) (kvs : Kv) : Prop where
  rc : RC P kvs
  snd : ∀ k ∈ keys kvs, ∃ pr ∈ done, k = sg P pr.2 ∨ ∃ n, Opn pr.1 n ∧ k = comb (sg P pr.2) (sg P n)
  cl : ∀ r', sg P r' ∈ keys kvs → ∀ p ∈ P, p.dot r' = 0 → ∀ n, Opn p n → comb (sg P r') (sg P n) ∈ keys kvs
  dn : ∀ pr ∈ done, sg P pr.2 ∈ keys kvs
section
variable {P : List V3} {kvs : Kv} {done : List (V3 × V3)} {p r b1 b2 : V3}
theorem Found.nil : Found P [] [] := ⟨.nil, (fun _ h => nomatch h), (fun _ h => nomatch h), fun _ h => nomatch h⟩
theorem Found.old (h : Found P done kvs) (hk : sg P r ∈ keys kvs) : Found P (done ++ [(p, r)]) kvs :=
  ⟨h.rc, fun k hk => by
    obtain ⟨pr, hm, e⟩ := h.snd k hk
    exact ⟨pr, List.mem_append_left _ hm, e⟩, h.cl, fun pr hm => by
    rcases List.mem_append.mp hm with hm | hm
    · exact h.dn pr hm
    · rw [List.mem_singleton.mp hm]; exact hk⟩
theorem Found.new (hP : Pl P) (h : Found P done kvs) (h1 : Ray1 P p r) (n1 : Near P r p b1) (n2 : Near P r p.neg b2) (k1 : RayOk b1) (k2 : RayOk b2) :
    Found P (done ++ [(p, r)]) (putD (putD (put kvs (sg P r) r.d) (sg P b1) b1.d) (sg P b2) b2.d) := by
  have s1 : sg P b1 = comb (sg P r) (sg P p) := n1.sg h1.pr.nz (h1.perp (.inl rfl))
  have s2 : sg P b2 = comb (sg P r) (sg P p.neg) := n2.sg h1.pr.nz (h1.perp (.inr rfl))
  have mk : ∀ k, k ∈ keys (putD (putD (put kvs (sg P r) r.d) (sg P b1) b1.d) (sg P b2) b2.d) ↔ k ∈ keys kvs ∨ k = sg P r ∨ k = sg P b1 ∨ k = sg P b2 := fun k => by
    rw [mem_keys_putD, mem_keys_putD, mem_keys_put, or_assoc, or_assoc]
  refine ⟨(((h.rc.put ⟨h1.pr, h1.bd.mono (by decide)⟩).putD k1).putD k2), fun k hk => ?_, fun r' hk q hq h0 n hn => ?_, fun pr hm => ?_⟩
  · rcases (mk k).mp hk with hk | rfl | rfl | rfl
    · obtain ⟨pr, hm, e⟩ := h.snd k hk
      exact ⟨pr, List.mem_append_left _ hm, e⟩
    · exact ⟨(p, r), by simp, .inl rfl⟩
    · exact ⟨(p, r), by simp, .inr ⟨p, .inl rfl, s1⟩⟩
    · exact ⟨(p, r), by simp, .inr ⟨p.neg, .inr rfl, s2⟩⟩
  · rw [mk]
    rcases (mk _).mp hk with hk | e | e | e
    · exact .inl (h.cl r' hk q hq h0 n hn)
    · have hr0 := sg_zero_at e hq h0
      have := h1.one q hq hr0
      subst this
      rw [e]
      rcases hn with rfl | rfl
      · exact .inr (.inr (.inl s1.symm))
      · exact .inr (.inr (.inr s2.symm))
    · exact absurd (sg_zero_at e hq h0) (h1.opn hP (.inl rfl) s1 hq)
    · exact absurd (sg_zero_at e hq h0) (h1.opn hP (.inr rfl) s2 hq)
  · rw [mk]
    rcases List.mem_append.mp hm with hm | hm
    · exact .inl (h.dn pr hm)
    · rw [List.mem_singleton.mp hm]; exact .inr (.inl rfl)
/-- all rays that the program walks -/
structure Done (P : List V3) (done : List (V3 × V3)) : Prop where
  ray : ∀ pr ∈ done, Ray1 P pr.1 pr.2
  arc : 2 ≤ P.length → (∀ pr ∈ done, Arc P pr.1 (sg P pr.2)) ∧ ∀ q a, Arc P q a → ∃ pr ∈ done, pr.1 = q ∧ sg P pr.2 = a
  one : P.length = 1 → done ≠ []
/-- a corner's dict -/
structure Corners (P : List V3) (cs : Kv) : Prop where
  nd : (keys cs).Nodup
  ks : ∀ k, k ∈ keys cs ↔ ∃ v : V3, Cor P v ∧ k = v.l
theorem cor_none {v : V3} (h : P.length ≤ 1) : ¬ Cor P v := fun ⟨p, hp, q, hq, hne, _⟩ => by
  match P, h with
  | [], _ => exact nomatch hp
  | [x], _ =>
    rw [List.mem_singleton] at hp hq
    exact hne (hp.trans hq.symm)
/-- the corners are stored last -/
def putAll (P : List V3) : List V3 → Kv → Kv
  | [], kvs => kvs
  | v :: vs, kvs => putAll P vs (put kvs (sg P v) v.d)
theorem putAll_snoc {vs : List V3} {v : V3} : ∀ {kvs : Kv}, putAll P (vs ++ [v]) kvs = put (putAll P vs kvs) (sg P v) v.d := by
  induction vs with
  | nil => intro kvs; rfl
  | cons u vs ih => intro kvs; exact ih
theorem putAll_keys : ∀ {vs : List V3} {kvs : Kv} {k : Rw}, k ∈ keys (putAll P vs kvs) ↔ k ∈ keys kvs ∨ ∃ v ∈ vs, k = sg P v
  | [], kvs, k => by simp [putAll]
  | v :: vs, kvs, k => by
    show k ∈ keys (putAll P vs (put kvs (sg P v) v.d)) ↔ _
    rw [putAll_keys, mem_keys_put]
    simp only [List.mem_cons, exists_eq_or_imp, or_assoc]
theorem putAll_rc : ∀ {vs : List V3} {kvs : Kv}, RC P kvs → (∀ v ∈ vs, RayOk v) → RC P (putAll P vs kvs)
  | [], _, h, _ => h
  | v :: vs, kvs, h, hv => putAll_rc (vs := vs) (kvs := put kvs (sg P v) v.d) (h.put (hv v (List.mem_cons_self ..))) fun u hu => hv u (List.mem_cons_of_mem _ hu)
theorem Cor.rayOk {v : V3} (hP : Pl P) (h : Cor P v) : RayOk v := ⟨h.prim hP, (h.bd hP).mono (by decide)⟩
theorem sign_ne {n : Int} (h : n ≠ 0) : n.sign = 1 ∨ n.sign = -1 := by
  rcases sign_cases n with e | e | e
  · exact .inr e
  · exact absurd (sign_zero_iff.mp e) h
  · exact .inl e
theorem cells_of_found (hP : Pl P) (h0 : P ≠ []) (h : Found P done kvs) (hd : Done P done) {vs : List V3} (hv : ∀ v, v ∈ vs ↔ Cor P v) : CellsOk P (putAll P vs kvs) := by
  refine ⟨putAll_rc h.rc fun v hm => ((hv v).mp hm).rayOk hP, fun k => ?_⟩
  rw [putAll_keys]
  by_cases h2 : 2 ≤ P.length
  · obtain ⟨a1, a2⟩ := hd.arc h2
    have e : KS P k = KK P k := by
      unfold KS
      match hl : P.length, h2 with
      | n + 2, _ => rfl
    rw [e]
    constructor
    · rintro (hk | ⟨v, hm, rfl⟩)
      · obtain ⟨pr, hm, e⟩ := h.snd k hk
        rcases e with rfl | ⟨n, hn, rfl⟩
        · exact .inr (.inl ⟨_, a1 pr hm⟩)
        · exact .inr (.inr ⟨_, _, n, a1 pr hm, hn, rfl⟩)
      · exact .inl ⟨v, (hv v).mp hm, rfl⟩
    · rintro (⟨v, hc, rfl⟩ | ⟨q, ha⟩ | ⟨q, a, n, ha, hn, rfl⟩)
      · exact .inr ⟨v, (hv v).mpr hc, rfl⟩
      · obtain ⟨pr, hm, _, rfl⟩ := a2 q k ha
        exact .inl (h.dn pr hm)
      · obtain ⟨pr, hm, _, rfl⟩ := a2 q a ha
        exact .inl (h.cl pr.2 (h.dn pr hm) q ha.1 (ha.on rfl) n hn)
  · have hl : P.length = 1 := by
      cases P with
      | nil => exact absurd rfl h0
      | cons p Q => simp only [List.length_cons] at h2 ⊢; omega
    have e : KS P k = (k = [0] ∨ k = [1] ∨ k = [-1]) := by
      unfold KS
      rw [hl]
      rfl
    rw [e]
    obtain ⟨p, rfl⟩ : ∃ p, P = [p] := by
      match P, hl with
      | [p], _ => exact ⟨p, rfl⟩
    have hp := V3.sq_pos (hP.nm p (by simp)).pr.nz
    constructor
    · rintro (hk | ⟨v, hm, rfl⟩)
      · obtain ⟨kv, hm, rfl⟩ := List.mem_map.mp hk
        obtain ⟨r, _, _, e⟩ := h.rc.ray kv hm
        rw [e]
        simp only [sg, List.map_cons, List.map_nil]
        rcases sign_cases (p.dot r) with e | e | e <;> simp [e]
      · exact absurd ((hv v).mp hm) (cor_none (by simp))
    · obtain ⟨pr, hm⟩ := List.exists_mem_of_ne_nil _ (hd.one rfl)
      have hr := hd.ray pr hm
      have hpp : pr.1 = p := by simpa using hr.mem
      have hon : p.dot pr.2 = 0 := by rw [← hpp]; exact hr.on
      have z := h.dn pr hm
      have c1 := h.cl pr.2 z p (by simp) hon p (.inl rfl)
      have c2 := h.cl pr.2 z p (by simp) hon p.neg (.inr rfl)
      have e0 : sg [p] pr.2 = [0] := by simp [sg, hon]
      have e1 : comb (sg [p] pr.2) (sg [p] p) = [1] := by
        rw [e0]
        simp [comb, sg, lex, Int.sign_eq_one_of_pos hp]
      have e2 : comb (sg [p] pr.2) (sg [p] p.neg) = [-1] := by
        rw [e0]
        simp [comb, sg, lex, V3.dot_neg, Int.sign_eq_one_of_pos hp]
      rw [e0] at z
      rw [e1] at c1
      rw [e2] at c2
      rintro (rfl | rfl | rfl)
      · exact .inl z
      · exact .inl c1
      · exact .inl c2
end
end Sk

/-! Ma4: how the law fills its cells. -/
namespace Sk
open PySem
structure LFound (M : List V3) (vd : List V3) (da : List (V3 × Rw)) (L : List (V3 × V3)) (kvs : Kv) : Prop where
  rc : RC M kvs
  cor : ∀ v ∈ vd, sg M v ∈ keys kvs
  arc : ∀ na ∈ da, na.2 ∈ keys kvs
  snd : ∀ k ∈ keys kvs, (∃ v, Cor M v ∧ k = sg M v) ∨ ∃ wn ∈ L, k = sg M wn.1
  ls : ∀ wn ∈ L, Ray1 M wn.2 wn.1 ∧ Arc M wn.2 (sg M wn.1)
section
variable {M P : List V3} {vd : List V3} {da : List (V3 × Rw)} {L : List (V3 × V3)} {kvs : Kv} {v n s w : V3}
theorem LFound.nil : LFound M [] [] [] [] := ⟨.nil, (fun _ h => nomatch h), (fun _ h => nomatch h), (fun _ h => nomatch h), fun _ h => nomatch h⟩
theorem LFound.corner (hM : Pl M) (h : LFound M vd da L kvs) (hv : Cor M v) : LFound M (vd ++ [v]) da L (put kvs (sg M v) v.d) := by
  refine ⟨h.rc.put (hv.rayOk hM), fun u hu => ?_, fun na hn => mem_keys_put.mpr (.inl (h.arc na hn)), fun k hk => ?_, h.ls⟩
  · rw [mem_keys_put]
    rcases List.mem_append.mp hu with hu | hu
    · exact .inl (h.cor u hu)
    · rw [List.mem_singleton.mp hu]; exact .inr rfl
  · rcases mem_keys_put.mp hk with hk | rfl
    · exact h.snd k hk
    · exact .inl ⟨v, hv, rfl⟩
theorem LFound.old (h : LFound M vd da L kvs) {a : Rw} (ha : a ∈ keys kvs) : LFound M vd (da ++ [(n, a)]) L kvs :=
  ⟨h.rc, h.cor, fun na hn => by
    rcases List.mem_append.mp hn with hn | hn
    · exact h.arc na hn
    · rw [List.mem_singleton.mp hn]; exact ha, h.snd, h.ls⟩
theorem LFound.new (h : LFound M vd da L kvs) (hw : Ray1 M n w) (ha : Arc M n (sg M w)) : LFound M vd (da ++ [(n, sg M w)]) (L ++ [(w, n)]) (put kvs (sg M w) w.d) := by
  refine ⟨h.rc.put ⟨hw.pr, hw.bd.mono (by decide)⟩, fun u hu => mem_keys_put.mpr (.inl (h.cor u hu)), fun na hn => ?_, fun k hk => ?_, fun wn hm => ?_⟩
  · rw [mem_keys_put]
    rcases List.mem_append.mp hn with hn | hn
    · exact .inl (h.arc na hn)
    · rw [List.mem_singleton.mp hn]; exact .inr rfl
  · rcases mem_keys_put.mp hk with hk | rfl
    · rcases h.snd k hk with h1 | ⟨wn, hm, e⟩
      · exact .inl h1
      · exact .inr ⟨wn, List.mem_append_left _ hm, e⟩
    · exact .inr ⟨(w, n), by simp, rfl⟩
  · rcases List.mem_append.mp hm with hm | hm
    · exact h.ls wn hm
    · rw [List.mem_singleton.mp hm]; exact ⟨hw, ha⟩
/-- the second walk: opens beside the arcs -/
structure OFound (M : List V3) (kvs0 : Kv) (od : List (V3 × V3)) (kvs : Kv) : Prop where
  rc : RC M kvs
  ks : ∀ k, k ∈ keys kvs ↔ k ∈ keys kvs0 ∨ ∃ wn ∈ od, k = comb (sg M wn.1) (sg M wn.2)
theorem OFound.nil (h : RC M kvs) : OFound M kvs [] kvs := ⟨h, fun k => by simp⟩
theorem OFound.snoc {kvs0 : Kv} {od : List (V3 × V3)} (h : OFound M kvs0 od kvs) {b : V3} (hb : RayOk b) (e : sg M b = comb (sg M w) (sg M n)) : OFound M kvs0 (od ++ [(w, n)]) (putD kvs (sg M b) b.d) := by
  refine ⟨h.rc.putD hb, fun k => ?_⟩
  rw [mem_keys_putD, h.ks, or_assoc]
  simp only [List.mem_append, List.mem_singleton, or_and_right, exists_or, exists_eq_left, e]
/-- both walks done: just the cells -/
theorem kk_of_law (hM : Pl M) {kvs0 : Kv} {od : List (V3 × V3)} (h : LFound M vd da L kvs0) (hv : ∀ v, Cor M v → v ∈ vd) (ha : ∀ p a, Arc M p a → ∃ na ∈ da, na.2 = a) (o : OFound M kvs0 od kvs)
    (hod : ∀ wn, wn ∈ od ↔ ∃ x ∈ L, wn.1 = x.1 ∧ Opn x.2 wn.2) : ∀ k, k ∈ keys kvs ↔ KK M k := fun k => by
  rw [o.ks]
  constructor
  · rintro (hk | ⟨wn, hm, rfl⟩)
    · rcases h.snd k hk with ⟨v, hc, rfl⟩ | ⟨wn, hm, rfl⟩
      · exact .inl ⟨v, hc, rfl⟩
      · exact .inr (.inl ⟨_, (h.ls wn hm).2⟩)
    · obtain ⟨x, hx, e, ho⟩ := (hod wn).mp hm
      rw [e]
      exact .inr (.inr ⟨_, _, wn.2, (h.ls x hx).2, ho, rfl⟩)
  · rintro (⟨v, hc, rfl⟩ | ⟨q, hq⟩ | ⟨q, a, n, hq, hn, rfl⟩)
    · exact .inl (h.cor v (hv v hc))
    · obtain ⟨na, hm, rfl⟩ := ha q k hq
      exact .inl (h.arc na hm)
    · obtain ⟨na, hm, rfl⟩ := ha q a hq
      rcases h.snd _ (h.arc na hm) with ⟨v, hc, e⟩ | ⟨wn, hm2, e⟩
      · exact absurd e (hq.not_cor hM hc)
      · have hon := hq.on e
        have hqe : q = wn.2 := (h.ls wn hm2).1.one q hq.1 hon
        refine .inr ⟨(wn.1, n), (hod _).mpr ⟨wn, hm2, rfl, ?_⟩, by rw [e]⟩
        rw [← hqe]
        exact hn
/-- the planes that the law walks -/
inductive Mo : List V3 → List V3 → Prop
  | two {P : List V3} : 2 ≤ P.length → Mo P P
  | one {p a : V3} : p ≠ a → Mo [p] [p, a]
  | non {a b : V3} : a ≠ b → Mo [] [a, b]
theorem sg_take (M : List V3) (m : Nat) (r : V3) : sg (M.take m) r = (sg M r).take m := List.map_take ..
theorem Mo.take (h : Mo P M) : M.take P.length = P := by
  cases h with
  | two _ => exact List.take_length
  | one _ => rfl
  | non _ => rfl
theorem Mo.two' (h : Mo P M) : 2 ≤ M.length := by
  cases h with
  | two h => exact h
  | one _ => simp
  | non _ => simp
/-- the table of the first marks -/
structure TFound (P : List V3) (m : Nat) (done : List Rw) (T : Kv) : Prop where
  rc : RC P T
  ks : ∀ k, k ∈ keys T ↔ ∃ k' ∈ done, k = k'.take m
theorem TFound.nil {m : Nat} : TFound P m [] [] := ⟨.nil, fun k => by simp [keys]⟩
theorem TFound.snoc {m : Nat} {done : List Rw} {T : Kv} (h : TFound P m done T) {r : V3} (hr : RayOk r) {k' : Rw} (e : sg P r = k'.take m) : TFound P m (done ++ [k']) (putD T (sg P r) r.d) := by
  refine ⟨h.rc.putD hr, fun k => ?_⟩
  rw [mem_keys_putD, h.ks]
  simp only [List.mem_append, List.mem_singleton, or_and_right, exists_or, exists_eq_left, e]
theorem ks_two {k : Rw} (h2 : 2 ≤ P.length) : KS P k = KK P k := by
  unfold KS
  match hl : P.length, h2 with
  | n + 2, _ => rfl
theorem cells_of_law (hm : Mo P M) (hM : Pl M) {T : Kv} (hkk : ∀ k, k ∈ keys kvs ↔ KK M k) (hrc : RC M kvs) (t : TFound P P.length (keys kvs) T) : CellsOk P T := by
  refine ⟨t.rc, fun k => ?_⟩
  rw [t.ks]
  cases hm with
  | two h2 =>
    rw [ks_two h2, ← hkk]
    constructor
    · rintro ⟨k', hk, rfl⟩
      obtain ⟨r, _, _, e⟩ := hrc.at hk
      rw [e, ← sg_take, List.take_length, ← e]
      exact hk
    · intro hk
      refine ⟨k, hk, ?_⟩
      obtain ⟨r, _, _, e⟩ := hrc.at hk
      rw [e, ← sg_take, List.take_length]
  | @one p a hne =>
    show _ ↔ (k = [0] ∨ k = [1] ∨ k = [-1])
    have hp : p ∈ [p, a] := by simp
    have ha : a ∈ [p, a] := by simp
    have hc : Cor [p, a] (p.cross a).low := ⟨p, hp, a, ha, hne, .inl rfl⟩
    have hz := V3.cross_nz (hM.nm p hp) (hM.nm a ha) hne
    have z1 : p.dot (p.cross a).low = 0 := (zero_low hz).mpr (V3.dot_cross_self p a)
    have z2 : a.dot (p.cross a).low = 0 := (zero_low hz).mpr (V3.dot_cross_self' p a)
    have hs : p.dot (a.cross (p.cross a).low) ≠ 0 := V3.arc_one (hM.nm a ha) (hM.nm p hp) (Ne.symm hne) (hc.prim hM).nz z2 z1
    have arc : ∀ s, (s = a.cross (p.cross a).low ∨ s = (a.cross (p.cross a).low).neg) → Arc [p, a] a (comb (sg [p, a] (p.cross a).low) (sg [p, a] s)) := fun s h => ⟨ha, _, s, hc, z2, h, rfl⟩
    have tk : ∀ s, (comb (sg [p, a] (p.cross a).low) (sg [p, a] s)).take 1 = [(p.dot s).sign] := fun s => by
      rw [comb_sg]
      simp [z1, lex]
    constructor
    · rintro ⟨k', hk, rfl⟩
      obtain ⟨r, _, _, e⟩ := hrc.at hk
      rw [e]
      simp only [List.length_cons, List.length_nil, sg, List.map_cons, List.take_succ_cons, List.take_zero]
      rcases sign_cases (p.dot r) with e | e | e <;> simp [e]
    · have c1 := (hkk _).mpr (.inr (.inl ⟨a, arc _ (.inl rfl)⟩))
      have c2 := (hkk _).mpr (.inr (.inl ⟨a, arc _ (.inr rfl)⟩))
      have t1 := tk (a.cross (p.cross a).low)
      have t2 := tk (a.cross (p.cross a).low).neg
      rw [V3.dot_neg, Int.sign_neg] at t2
      rintro (rfl | rfl | rfl)
      · refine ⟨sg [p, a] (p.cross a).low, (hkk _).mpr (.inl ⟨_, hc, rfl⟩), ?_⟩
        simp [sg, z1]
      · rcases sign_ne hs with e | e
        · rw [e] at t1; exact ⟨_, c1, t1.symm⟩
        · rw [e] at t2; exact ⟨_, c2, t2.symm⟩
      · rcases sign_ne hs with e | e
        · rw [e] at t2; exact ⟨_, c2, t2.symm⟩
        · rw [e] at t1; exact ⟨_, c1, t1.symm⟩
  | @non a b hne =>
    show _ ↔ k = []
    constructor
    · rintro ⟨k', _, rfl⟩; simp
    · rintro rfl
      exact ⟨_, (hkk _).mpr (.inl ⟨(a.cross b).low, ⟨a, by simp, b, by simp, hne, .inl rfl⟩, rfl⟩), by simp⟩
end
end Sk

/-! Ma5: trees of lots. -/
namespace Sk
open PySem
inductive Tr where
  | all
  | leaf (side : Bool) (v : V3)
  | not (t : Tr)
  | grp (an : Bool) (ts : List Tr)
mutual
def Tr.d : Tr → PyData
  | .all => .tuple [.str "all"]
  | .leaf true v => .tuple [.str "side", v.d]
  | .leaf false v => .tuple [.str "rim", v.d]
  | .not t => .tuple [.str "not", t.d]
  | .grp true ts => .tuple [.str "and", .tuple (Tr.dL ts)]
  | .grp false ts => .tuple [.str "or", .tuple (Tr.dL ts)]
def Tr.dL : List Tr → List PyData
  | [] => []
  | t :: ts => t.d :: Tr.dL ts
end
mutual
def Tr.leaves : Tr → List V3
  | .all => []
  | .leaf _ v => [v]
  | .not t => t.leaves
  | .grp _ ts => Tr.leavesL ts
def Tr.leavesL : List Tr → List V3
  | [] => []
  | t :: ts => t.leaves ++ Tr.leavesL ts
end
mutual
def Tr.red : Tr → Tr
  | .all => .all
  | .leaf s v => .leaf s v.low
  | .not t => .not t.red
  | .grp a ts => .grp a (Tr.redL ts)
def Tr.redL : List Tr → List Tr
  | [] => []
  | t :: ts => t.red :: Tr.redL ts
end
mutual
def Tr.dep : Tr → Nat
  | .all => 1
  | .leaf _ _ => 1
  | .not t => t.dep + 1
  | .grp _ ts => Tr.depL ts + 1
def Tr.depL : List Tr → Nat
  | [] => 0
  | t :: ts => max t.dep (Tr.depL ts)
end
mutual
/-- what a lot may be made of -/
def Tr.fit : Tr → Prop
  | .all => True
  | .leaf _ v => v.nz ∧ v.Bd 14
  | .not t => t.fit
  | .grp _ ts => 1 ≤ ts.length ∧ ts.length ≤ 8 ∧ Tr.fitL ts
def Tr.fitL : List Tr → Prop
  | [] => True
  | t :: ts => t.fit ∧ Tr.fitL ts
end
/-- the sign at a plane -/
def sAt : List V3 → Rw → V3 → Int
  | p :: P, s :: k, q => if p = q then s else sAt P k q
  | _, _, _ => 0
def hL (P : List V3) (k : Rw) (side : Bool) (v : V3) : Bool := (if v.fst = v.low then sAt P k v.fst else - sAt P k v.fst) == (if side then 1 else 0)
mutual
/-- by the signs -/
def Tr.hK (P : List V3) (k : Rw) : Tr → Bool
  | .all => true
  | .leaf s v => hL P k s v
  | .not t => !t.hK P k
  | .grp true ts => (Tr.hKL P k ts).all id
  | .grp false ts => (Tr.hKL P k ts).any id
def Tr.hKL (P : List V3) (k : Rw) : List Tr → List Bool
  | [] => []
  | t :: ts => t.hK P k :: Tr.hKL P k ts
end
mutual
/-- by the ray -/
def Tr.holds (r : V3) : Tr → Bool
  | .all => true
  | .leaf true v => decide (0 < v.dot r)
  | .leaf false v => decide (v.dot r = 0)
  | .not t => !t.holds r
  | .grp true ts => (Tr.holdsL r ts).all id
  | .grp false ts => (Tr.holdsL r ts).any id
def Tr.holdsL (r : V3) : List Tr → List Bool
  | [] => []
  | t :: ts => t.holds r :: Tr.holdsL r ts
end
/-! lists as maps -/
theorem Tr.dL_map : ∀ ts : List Tr, Tr.dL ts = ts.map Tr.d
  | [] => rfl
  | t :: ts => by rw [Tr.dL, Tr.dL_map ts]; rfl
theorem Tr.redL_map : ∀ ts : List Tr, Tr.redL ts = ts.map Tr.red
  | [] => rfl
  | t :: ts => by rw [Tr.redL, Tr.redL_map ts]; rfl
theorem Tr.leavesL_flat : ∀ ts : List Tr, Tr.leavesL ts = ts.flatMap Tr.leaves
  | [] => rfl
  | t :: ts => by rw [Tr.leavesL, Tr.leavesL_flat ts]; rfl
theorem Tr.hKL_map (P : List V3) (k : Rw) : ∀ ts : List Tr, Tr.hKL P k ts = ts.map (Tr.hK P k)
  | [] => rfl
  | t :: ts => by rw [Tr.hKL, Tr.hKL_map P k ts]; rfl
theorem Tr.holdsL_map (r : V3) : ∀ ts : List Tr, Tr.holdsL r ts = ts.map (Tr.holds r)
  | [] => rfl
  | t :: ts => by rw [Tr.holdsL, Tr.holdsL_map r ts]; rfl
theorem Tr.fitL_all : ∀ {ts : List Tr}, Tr.fitL ts ↔ ∀ t ∈ ts, t.fit
  | [] => by simp [Tr.fitL]
  | t :: ts => by rw [Tr.fitL, Tr.fitL_all (ts := ts)]; simp
theorem Tr.depL_le {n : Nat} : ∀ {ts : List Tr}, Tr.depL ts ≤ n ↔ ∀ t ∈ ts, t.dep ≤ n
  | [] => by simp [Tr.depL]
  | t :: ts => by rw [Tr.depL, Nat.max_le, Tr.depL_le (ts := ts)]; simp
theorem Tr.mem_leavesL {t : Tr} {ts : List Tr} (h : t ∈ ts) {v : V3} (hv : v ∈ t.leaves) : v ∈ Tr.leavesL ts := by
  rw [Tr.leavesL_flat]
  exact List.mem_flatMap.mpr ⟨t, h, hv⟩
theorem Tr.leaves_le {t : Tr} : ∀ {ts : List Tr}, t ∈ ts → t.leaves.length ≤ (Tr.leavesL ts).length
  | u :: ts, h => by
    rw [Tr.leavesL, List.length_append]
    rcases List.mem_cons.mp h with e | h
    · subst e; omega
    · have := Tr.leaves_le h; omega
mutual
theorem Tr.fit_leaves : ∀ {t : Tr}, t.fit → ∀ v ∈ t.leaves, v.nz ∧ v.Bd 14
  | .all, _, v, h => by simp [Tr.leaves] at h
  | .leaf s u, f, v, h => by
    simp [Tr.leaves] at h
    subst h
    simpa [Tr.fit] using f
  | .not t, f, v, h => by
    rw [Tr.leaves] at h
    rw [Tr.fit] at f
    exact Tr.fit_leaves f v h
  | .grp a ts, f, v, h => by
    rw [Tr.leaves] at h
    rw [Tr.fit] at f
    exact Tr.fit_leavesL f.2.2 v h
theorem Tr.fit_leavesL : ∀ {ts : List Tr}, Tr.fitL ts → ∀ v ∈ Tr.leavesL ts, v.nz ∧ v.Bd 14
  | [], _, v, h => by simp [Tr.leavesL] at h
  | t :: ts, f, v, h => by
    rw [Tr.leavesL] at h
    rw [Tr.fitL] at f
    rcases List.mem_append.mp h with h | h
    · exact Tr.fit_leaves f.1 v h
    · exact Tr.fit_leavesL f.2 v h
end
/-! reduced trees -/
theorem low_low {v : V3} (h : v.nz) : v.low.low = v.low := (V3.low_prim h).low
theorem fst_low {v : V3} (h : v.nz) : v.low.fst = v.fst := by
  unfold V3.fst
  rw [low_low h]
mutual
theorem Tr.red_facts : ∀ {t : Tr}, t.fit → t.red.fit ∧ t.red.dep = t.dep ∧ t.red.leaves = t.leaves.map V3.low ∧ ∀ P k, t.red.hK P k = t.hK P k
  | .all, _ => ⟨trivial, rfl, rfl, fun _ _ => rfl⟩
  | .leaf s v, f => by
    rw [Tr.fit] at f
    refine ⟨?_, by simp [Tr.red, Tr.dep], by simp [Tr.red, Tr.leaves], fun P k => ?_⟩
    · rw [Tr.red, Tr.fit]; exact ⟨V3.low_nz f.1, f.2.low⟩
    · rw [Tr.red, Tr.hK, Tr.hK]
      unfold hL
      rw [fst_low f.1, low_low f.1]
  | .not t, f => by
    rw [Tr.fit] at f
    obtain ⟨h1, h2, h3, h4⟩ := Tr.red_facts f
    refine ⟨by rw [Tr.red, Tr.fit]; exact h1, by rw [Tr.red, Tr.dep, Tr.dep, h2], by rw [Tr.red, Tr.leaves, Tr.leaves, h3], fun P k => by rw [Tr.red, Tr.hK, Tr.hK, h4]⟩
  | .grp a ts, f => by
    rw [Tr.fit] at f
    obtain ⟨h1, h2, h3, h4⟩ := Tr.red_factsL f.2.2
    have hl : (Tr.redL ts).length = ts.length := by rw [Tr.redL_map, List.length_map]
    refine ⟨by rw [Tr.red, Tr.fit, hl]; exact ⟨f.1, f.2.1, h1⟩, by rw [Tr.red, Tr.dep, Tr.dep, h2], by rw [Tr.red, Tr.leaves, Tr.leaves, h3], fun P k => ?_⟩
    cases a <;> rw [Tr.red, Tr.hK, Tr.hK, h4]
theorem Tr.red_factsL : ∀ {ts : List Tr}, Tr.fitL ts → Tr.fitL (Tr.redL ts) ∧ Tr.depL (Tr.redL ts) = Tr.depL ts ∧ Tr.leavesL (Tr.redL ts) = (Tr.leavesL ts).map V3.low ∧ ∀ P k, Tr.hKL P k (Tr.redL ts) = Tr.hKL P k ts
  | [], _ => ⟨trivial, rfl, rfl, fun _ _ => rfl⟩
  | t :: ts, f => by
    rw [Tr.fitL] at f
    obtain ⟨h1, h2, h3, h4⟩ := Tr.red_facts f.1
    obtain ⟨g1, g2, g3, g4⟩ := Tr.red_factsL f.2
    refine ⟨by rw [Tr.redL, Tr.fitL]; exact ⟨h1, g1⟩, by rw [Tr.redL, Tr.depL, Tr.depL, h2, g2], by rw [Tr.redL, Tr.leavesL, Tr.leavesL, h3, g3, List.map_append], fun P k => by rw [Tr.redL, Tr.hKL, Tr.hKL, h4, g4]⟩
end
/-! planes of a tree -/
def ddp (xs : List Rw) : List Rw := xs.foldl (fun acc k => if k ∈ acc then acc else acc ++ [k]) []
theorem ddp_snoc (xs : List Rw) (k : Rw) : ddp (xs ++ [k]) = if k ∈ ddp xs then ddp xs else ddp xs ++ [k] := by
  unfold ddp
  rw [List.foldl_append]; rfl
theorem ddp_acc : ∀ (xs acc : List Rw), acc.Nodup → (xs.foldl (fun acc k => if k ∈ acc then acc else acc ++ [k]) acc).Nodup ∧ ∀ k, k ∈ xs.foldl (fun acc k => if k ∈ acc then acc else acc ++ [k]) acc ↔ k ∈ acc ∨ k ∈ xs
  | [], acc, h => ⟨h, fun k => by simp⟩
  | x :: xs, acc, h => by
    rw [List.foldl_cons]
    by_cases hx : x ∈ acc
    · rw [if_pos hx]
      obtain ⟨h1, h2⟩ := ddp_acc xs acc h
      refine ⟨h1, fun k => ?_⟩
      rw [h2, List.mem_cons]
      constructor
      · rintro (h | h)
        · exact .inl h
        · exact .inr (.inr h)
      · rintro (h | rfl | h)
        · exact .inl h
        · exact .inl hx
        · exact .inr h
    · rw [if_neg hx]
      obtain ⟨h1, h2⟩ := ddp_acc xs (acc ++ [x]) (List.nodup_append.mpr ⟨h, by simp, fun a ha b hb e => hx (by rw [List.mem_singleton] at hb; subst hb e; exact ha)⟩)
      refine ⟨h1, fun k => ?_⟩
      rw [h2, List.mem_append, List.mem_singleton, List.mem_cons, or_assoc]
theorem ddp_facts (xs : List Rw) : (ddp xs).Nodup ∧ ∀ k, k ∈ ddp xs ↔ k ∈ xs := by
  obtain ⟨h1, h2⟩ := ddp_acc xs [] List.nodup_nil
  exact ⟨h1, fun k => by unfold ddp; rw [h2]; simp⟩
def Tr.plT (t : Tr) : List Rw := Nw.sortI (ddp (t.leaves.map fun v => v.fst.l))
def ofL : Rw → V3
  | [a, b, c] => ⟨a, b, c⟩
  | _ => ⟨0, 0, 0⟩
def Tr.plV (t : Tr) : List V3 := t.plT.map ofL
theorem Tr.mem_plT {t : Tr} {k : Rw} : k ∈ t.plT ↔ ∃ v ∈ t.leaves, k = v.fst.l := by
  unfold Tr.plT
  rw [mem_sortI, (ddp_facts _).2, List.mem_map]
  constructor
  · rintro ⟨v, hv, rfl⟩; exact ⟨v, hv, rfl⟩
  · rintro ⟨v, hv, rfl⟩; exact ⟨v, hv, rfl⟩
theorem Tr.plV_l (t : Tr) : t.plV.map V3.l = t.plT := by
  unfold Tr.plV
  rw [List.map_map]
  conv => rhs; rw [← List.map_id t.plT]
  refine List.map_congr_left fun k hk => ?_
  obtain ⟨v, _, rfl⟩ := Tr.mem_plT.mp hk
  rfl
theorem Tr.mem_plV {t : Tr} {p : V3} : p ∈ t.plV ↔ ∃ v ∈ t.leaves, p = v.fst := by
  unfold Tr.plV
  rw [List.mem_map]
  constructor
  · rintro ⟨k, hk, rfl⟩
    obtain ⟨v, hv, rfl⟩ := Tr.mem_plT.mp hk
    exact ⟨v, hv, rfl⟩
  · rintro ⟨v, hv, rfl⟩
    exact ⟨_, Tr.mem_plT.mpr ⟨v, hv, rfl⟩, rfl⟩
theorem Tr.plV_nodup (t : Tr) : t.plV.Nodup := by
  have h : (t.plV.map V3.l).Nodup := by
    rw [Tr.plV_l]
    exact sortI_nodup (ddp_facts _).1
  exact (List.pairwise_map.mp h).imp fun hn e => hn (by rw [e])
theorem Tr.plT_nodup (t : Tr) : t.plT.Nodup := sortI_nodup (ddp_facts _).1
theorem Tr.plT_sorted (t : Tr) {ks : List Rw} (hn : ks.Nodup) (h : ∀ k, k ∈ ks ↔ ∃ v ∈ t.leaves, k = v.fst.l) : Nw.sortI ks = t.plT := by
  unfold Tr.plT
  refine sortI_eq hn (ddp_facts _).1 fun k => ?_
  rw [h, (ddp_facts _).2, List.mem_map]
  constructor
  · rintro ⟨v, hv, rfl⟩; exact ⟨v, hv, rfl⟩
  · rintro ⟨v, hv, rfl⟩; exact ⟨v, hv, rfl⟩
theorem Tr.plV_red {t : Tr} (f : t.fit) : (Tr.not t.red).plV = t.plV := by
  have e : (Tr.not t.red).plT = t.plT := by
    refine (Tr.plT_sorted (t := t) (ks := ddp ((Tr.not t.red).leaves.map fun v => v.fst.l)) (ddp_facts _).1 fun k => ?_)
    rw [(ddp_facts _).2, List.mem_map, Tr.leaves, (Tr.red_facts f).2.2.1]
    constructor
    · rintro ⟨u, hu, rfl⟩
      obtain ⟨v, hv, rfl⟩ := List.mem_map.mp hu
      exact ⟨v, hv, by rw [fst_low (Tr.fit_leaves f v hv).1]⟩
    · rintro ⟨v, hv, rfl⟩
      exact ⟨v.low, List.mem_map.mpr ⟨v, hv, rfl⟩, by rw [fst_low (Tr.fit_leaves f v hv).1]⟩
  unfold Tr.plV
  rw [e]
/-- leaves upon rims -/
def Tr.on (R : List V3) (t : Tr) : Prop := ∀ v ∈ t.leaves, ∃ r ∈ R, ∃ c : Int, c ≠ 0 ∧ v = V3.sc c r
theorem Tr.plV_on {R : List V3} (hR : Pl R) {t : Tr} (h : t.on R) : ∀ p ∈ t.plV, p ∈ R := fun p hp => by
  obtain ⟨v, hv, rfl⟩ := Tr.mem_plV.mp hp
  obtain ⟨r, hr, c, hc, rfl⟩ := h v hv
  rw [V3.sc_fst (hR.nm r hr) hc]
  exact hr
theorem Tr.plV_pl {R : List V3} (hR : Pl R) {t : Tr} (h : t.on R) : Pl t.plV :=
  ⟨t.plV_nodup, fun p hp => hR.nm p (Tr.plV_on hR h p hp), fun p hp => hR.bd p (Tr.plV_on hR h p hp), Nat.le_trans (nodup_le t.plV_nodup (Tr.plV_on hR h)) hR.le⟩
/-! by signs as by a ray -/
theorem sAt_sg {r p : V3} : ∀ {P : List V3}, p ∈ P → sAt P (sg P r) p = (p.dot r).sign
  | q :: P, h => by
    show (if q = p then (q.dot r).sign else sAt P (sg P r) p) = _
    by_cases e : q = p
    · rw [if_pos e, e]
    · rw [if_neg e]
      exact sAt_sg ((List.mem_cons.mp h).resolve_left fun z => e z.symm)
theorem low_of_fst {v r : V3} (hv : v.nz) : (if v.fst = v.low then (v.fst.dot r).sign else - (v.fst.dot r).sign) = (v.dot r).sign := by
  by_cases e : v.fst = v.low
  · rw [if_pos e, e, V3.low_dot hv]
  · have e2 := v.fst_or.resolve_left fun z => e z.symm
    rw [if_neg e, ← V3.low_dot hv, e2, V3.neg_dot, Int.sign_neg]
theorem hL_holds {P : List V3} {r v : V3} (s : Bool) (hv : v.nz) (hp : v.fst ∈ P) : hL P (sg P r) s v = if s then decide (0 < v.dot r) else decide (v.dot r = 0) := by
  unfold hL
  rw [sAt_sg hp, low_of_fst hv]
  cases s with
  | true =>
    rcases Int.lt_trichotomy (v.dot r) 0 with h | h | h
    · rw [Int.sign_eq_neg_one_of_neg h]
      have : ¬ 0 < v.dot r := by omega
      simp [this]
    · rw [h]; rfl
    · rw [Int.sign_eq_one_of_pos h]
      simp [h]
  | false =>
    by_cases h : v.dot r = 0
    · simp [h]
    · have : (v.dot r).sign ≠ 0 := fun e => h (sign_zero_iff.mp e)
      simp [h, this]
mutual
theorem Tr.hK_holds {P : List V3} {r : V3} : ∀ {t : Tr}, t.fit → (∀ v ∈ t.leaves, v.fst ∈ P) → t.hK P (sg P r) = t.holds r
  | .all, _, _ => by rw [Tr.hK, Tr.holds]
  | .leaf true v, f, h => by
    rw [Tr.hK, Tr.holds]
    rw [Tr.fit] at f
    exact hL_holds true f.1 (h v (by simp [Tr.leaves]))
  | .leaf false v, f, h => by
    rw [Tr.hK, Tr.holds]
    rw [Tr.fit] at f
    exact hL_holds false f.1 (h v (by simp [Tr.leaves]))
  | .not t, f, h => by
    rw [Tr.fit] at f
    rw [Tr.hK, Tr.holds, Tr.hK_holds f fun v hv => h v (by rw [Tr.leaves]; exact hv)]
  | .grp true ts, f, h => by
    rw [Tr.fit] at f
    rw [Tr.hK, Tr.holds, Tr.hKL_holds f.2.2 fun v hv => h v (by rw [Tr.leaves]; exact hv)]
  | .grp false ts, f, h => by
    rw [Tr.fit] at f
    rw [Tr.hK, Tr.holds, Tr.hKL_holds f.2.2 fun v hv => h v (by rw [Tr.leaves]; exact hv)]
theorem Tr.hKL_holds {P : List V3} {r : V3} : ∀ {ts : List Tr}, Tr.fitL ts → (∀ v ∈ Tr.leavesL ts, v.fst ∈ P) → Tr.hKL P (sg P r) ts = Tr.holdsL r ts
  | [], _, _ => by rw [Tr.hKL, Tr.holdsL]
  | t :: ts, f, h => by
    rw [Tr.fitL] at f
    rw [Tr.hKL, Tr.holdsL, Tr.hK_holds f.1 fun v hv => h v (by rw [Tr.leavesL]; exact List.mem_append_left _ hv), Tr.hKL_holds f.2 fun v hv => h v (by rw [Tr.leavesL]; exact List.mem_append_right _ hv)]
end
theorem Tr.hK_not {P : List V3} {k : Rw} {t : Tr} (f : t.fit) : (Tr.not t.red).hK P k = !t.hK P k := by rw [Tr.hK, (Tr.red_facts f).2.2.2]
theorem Tr.red_red_hK {P : List V3} {k : Rw} {t : Tr} (f : t.fit) : t.red.hK P k = t.hK P k := (Tr.red_facts f).2.2.2 P k
/-- the dict of planes and signs -/
theorem look_zip {k : Rw} {p : V3} : ∀ {P : List V3} {k : Rw}, p ∈ P → P.length = k.length → look ((P.map V3.l).zip (k.map PyData.int)) p.l = some (.int (sAt P k p))
  | q :: P, [], _, hl => by simp at hl
  | q :: P, s :: k, h, hl => by
    show (List.find? _ ((q.l, PyData.int s) :: (P.map V3.l).zip (k.map PyData.int))).map (·.2) = some (.int (if q = p then s else sAt P k p))
    rw [List.find?_cons]
    by_cases e : q = p
    · subst e
      rw [if_pos rfl]
      simp
    · have e2 : ¬ q.l = p.l := fun z => e (V3.l_inj z)
      rw [if_neg e, decide_eq_false e2]
      exact look_zip (k := k) ((List.mem_cons.mp h).resolve_left fun z => e z.symm) (by simpa using hl)
/-! what can be compared -/
mutual
theorem Tr.lay : ∀ t : Tr, t.d.canLay0 = true ∧ t.d.depth ≤ 2 * t.dep
  | .all => ⟨by decide +kernel, by decide +kernel⟩
  | .leaf true v => ⟨by simp only [Tr.d, PyData.canLay0, PyData.canLayAll0, Bool.and_true, Bool.and_self]; decide +kernel, by simp [Tr.d, Tr.dep, PyData.depth, PyData.depthAll]⟩
  | .leaf false v => ⟨by simp only [Tr.d, PyData.canLay0, PyData.canLayAll0, Bool.and_true, Bool.and_self]; decide +kernel, by simp [Tr.d, Tr.dep, PyData.depth, PyData.depthAll]⟩
  | .not t => by
    obtain ⟨h1, h2⟩ := Tr.lay t
    refine ⟨by simp only [Tr.d, PyData.canLay0, PyData.canLayAll0, Bool.and_true, Bool.and_self, h1]; decide +kernel, ?_⟩
    simp only [Tr.d, Tr.dep, PyData.depth, PyData.depthAll]
    omega
  | .grp true ts => by
    obtain ⟨h1, h2⟩ := Tr.layL ts
    refine ⟨by simp only [Tr.d, PyData.canLay0, PyData.canLayAll0, Bool.and_true, Bool.and_self, h1]; decide +kernel, ?_⟩
    simp only [Tr.d, Tr.dep, PyData.depth, PyData.depthAll]
    omega
  | .grp false ts => by
    obtain ⟨h1, h2⟩ := Tr.layL ts
    refine ⟨by simp only [Tr.d, PyData.canLay0, PyData.canLayAll0, Bool.and_true, Bool.and_self, h1]; decide +kernel, ?_⟩
    simp only [Tr.d, Tr.dep, PyData.depth, PyData.depthAll]
    omega
theorem Tr.layL : ∀ ts : List Tr, PyData.canLayAll0 (Tr.dL ts) = true ∧ PyData.depthAll (Tr.dL ts) ≤ 2 * Tr.depL ts
  | [] => ⟨rfl, Nat.le_refl _⟩
  | t :: ts => by
    obtain ⟨h1, h2⟩ := Tr.lay t
    obtain ⟨g1, g2⟩ := Tr.layL ts
    refine ⟨by simp only [Tr.dL, PyData.canLayAll0, h1, g1, Bool.and_self], ?_⟩
    simp only [Tr.dL, Tr.depL, PyData.depthAll]
    omega
end
theorem Tr.shaped {t : Tr} (h : t.dep ≤ 20) : SeqAt.shaped t.d = true := by
  obtain ⟨h1, h2⟩ := t.lay
  unfold SeqAt.shaped
  rw [h1, decide_eq_true (by omega)]; rfl
end Sk


/-! Lo: skyplates.lots -/
namespace Sk
open PySem PySem.Spec PyProof.Rows L2
local macro_rules | `(tactic| walk_at "sk") => `(tactic| repeat' (first
  | ((with_reducible show Ev _ (tVar _) _ _ _); refine ev_var rfl ?_) | with_reducible refine ev_int ?_ | with_reducible refine ev_bl ?_ | with_reducible refine ev_non ?_ | with_reducible refine ev_str ?_ | with_reducible refine ev_ty ?_ | with_reducible refine ev_ref ?_
  | with_reducible refine ev_op ?_ | with_reducible refine ev_un ?_ | with_reducible refine ev_cb ?_ | with_reducible refine ea_cons ?_ | with_reducible refine ea_nil ?_
  | with_reducible refine ev_if ?_ | with_reducible refine ev_and ?_ | with_reducible refine ev_or ?_ | with_reducible refine ev_not ?_ | with_reducible refine ev_tup ?_ | with_reducible refine ev_call ?_
  | with_reducible refine sx_seq ?_ | with_reducible refine sx_asg ?_ | with_reducible refine tg_name ?_ | with_reducible refine sx_ret ?_ | with_reducible refine sx_next ?_ | with_reducible refine sx_drop ?_ | with_reducible refine sx_if ?_
  | with_reducible refine et_chain ?_ | with_reducible refine et_test ?_ | with_reducible refine et_B ?_ | with_reducible refine et_not ?_ | with_reducible refine et_and ?_ | with_reducible refine et_or ?_
  | with_reducible refine o_add ?_ | with_reducible refine o_sub ?_ | with_reducible refine o_lt ?_ | with_reducible refine o_le ?_ | with_reducible refine o_gt ?_ | with_reducible refine o_ge ?_
  | with_reducible refine o_neg ?_ | with_reducible refine o_subB ?_ | with_reducible refine o_mul ?_ ?_
  | ((with_reducible show Op2 _ (rIx _) _ _ _ _); refine o_ix (.tup _) rfl ?_)
  | ((with_reducible show Op2 _ (rEqD _) _ _ _ _); (first | refine o_eqD (.dat _) (.dat _) rfl rfl ?_ | refine o_eqD (.dat _) (.dat _) (by decide +kernel) (by decide +kernel) ?_))
  | ((with_reducible show Op2 _ (rNeD _) _ _ _ _); (first | refine o_neD (.dat _) (.dat _) rfl rfl ?_ | refine o_neD (.dat _) (.dat _) (by decide +kernel) (by decide +kernel) ?_))
  | ((with_reducible show Op2 _ (rIn _ false) _ _ _ _); refine o_in (.tup _) (by rfl) (by rfl) ?_) | ((with_reducible show Op2 _ (rIn _ true) _ _ _ _); refine o_notIn (.tup _) (by rfl) (by rfl) ?_)
  | ((with_reducible show OpC _ (rIsi _) _ _ _); (first | refine oc_isi (b := true) (by rfl) ?_ | refine oc_isi (b := false) (by rfl) ?_))
  | ((with_reducible show OpC _ _ _ _ _); refine oc_len (.tup _) ?_)
  | ((with_reducible show Tg _ (gTup _ _ _) _ _ _ _); (first | with_reducible refine tg_pair ?_ | refine tg_tup rfl ?_)) | ((with_reducible show Tgs _ (gCons _ _) _ _ _ _); refine tgs_cons ?_) | ((with_reducible show Tgs _ gNil _ _ _ _); refine tgs_nil ?_)
  | ((with_reducible show ∃ ds, alld _ ds ∧ _); (first
    | refine ⟨[_, _, _], ⟨rfl, rfl, rfl, trivial⟩, Nat.le_of_ble_eq_true rfl, ?_⟩ | refine ⟨[_, _], ⟨rfl, rfl, trivial⟩, Nat.le_of_ble_eq_true rfl, ?_⟩ | refine ⟨[_], ⟨rfl, trivial⟩, Nat.le_of_ble_eq_true rfl, ?_⟩ | refine ⟨[], trivial, Nat.le_of_ble_eq_true rfl, ?_⟩
    | refine ⟨[_, _, _, _], ⟨rfl, rfl, rfl, rfl, trivial⟩, Nat.le_of_ble_eq_true rfl, ?_⟩ | refine ⟨[_, _, _, _, _], ⟨rfl, rfl, rfl, rfl, rfl, trivial⟩, Nat.le_of_ble_eq_true rfl, ?_⟩ | refine ⟨[_, _, _, _, _, _], ⟨rfl, rfl, rfl, rfl, rfl, rfl, trivial⟩, Nat.le_of_ble_eq_true rfl, ?_⟩
    | refine ⟨[_, _, _, _, _, _, _], ⟨rfl, rfl, rfl, rfl, rfl, rfl, rfl, trivial⟩, Nat.le_of_ble_eq_true rfl, ?_⟩))
  | ((with_reducible show (_ = true → _) ∧ (_ = false → _)); (first | refine pickT rfl ?_ | refine pickF rfl ?_))
  | ((with_reducible show ∃ _, Kn.dat (PyData.bool _) = Kn.dat (PyData.bool _) ∧ _); refine ⟨_, rfl, ?_⟩)
  | ((with_reducible show ∃ _, Kn.dat _ = Kn.dat _ ∧ _); refine ⟨_, rfl, ?_⟩) | fail))

section
variable {P : Program} {w : World} {K : PySem.W.Frag} {mg : Str → Option Value} {base : Heap} {f : Addr} {fd : FuncData}

def w_is_whole : WT := fun ks O Φ => ∃ n : Int, ks = [.dat (.int n)] ∧ O = [] ∧ Φ (.dat (.bool true)) []
theorem cl_is_whole (T : Bt mg) (F : Df K mg "is_whole" s_is_whole f fd) : Cl P w K mg base "is_whole" 1 1 w_is_whole := by
  have nd := sc_is_whole.nd
  refine cl_of 0 1 F sc_is_whole rfl (fun _ _ _ _ _ _ us hl => match us, hl with | [_], _ => rfl) fun cdv A outer s H E hr => ⟨_, (pss_one (ps_ret (pe_and (pe_callB (kIsi (K := K)) (by rfl) T.isinstance_ (by decide +kernel) (pa_cons (pv 0) (pa_cons (pe_bltn (v := .ty "int") (u := .type "int") (by rfl) T.int_ (by decide +kernel) rfl) pa_nil))) (pe_one (pe_not (pe_callB (kIsi (K := K)) (by rfl) T.isinstance_ (by decide +kernel) (pa_cons (pv 0) (pa_cons (pe_bltn (v := .ty "bool") (u := .type "bool") (by rfl) T.bool_ (by decide +kernel) rfl) pa_nil)))))))), ?_⟩
  intro B ks O Φ hl ⟨n, e1, e2, q⟩
  subst e1 e2
  walk_at "sk"
  exact ⟨_, sub_nil _, q⟩

def w_are_wholes : WT := fun ks O Φ => ∃ v : V3, ks = [.dat v.d, .dat (.int 3)] ∧ O = [] ∧ Φ (.dat (.bool true)) []
theorem cl_are_wholes (T : Bt mg) (F : Df K mg "are_wholes" s_are_wholes f fd) (C_is_whole : Cl P w K mg base "is_whole" 1 1 w_is_whole) : Cl P w K mg base "are_wholes" 2 2 w_are_wholes := by
  have nd := sc_are_wholes.nd
  refine cl_of 1 2 F sc_are_wholes rfl (fun _ _ _ _ _ _ us hl => match us, hl with | [_, _], _ => rfl) fun cdv A outer s H E hr => ⟨_, (pss_one (ps_ret (pe_and (pe_callB (kIsi (K := K)) (by rfl) T.isinstance_ (by decide +kernel) (pa_cons (pv 0) (pa_cons (pe_bltn (v := .ty "tuple") (u := .type "tuple") (by rfl) T.tuple_ (by decide +kernel) rfl) pa_nil))) (pe_and (pe_cmpR (kEqD (K := K) hr.units) (pe_callB (kLen (K := K)) (by rfl) T.len_ (by decide +kernel) (pa_cons (pv 0) pa_nil)) (pv 1) (nomark _)) (pe_one (pe_callB (kAll (K := K) rfl) (by rfl) T.all_ (by decide +kernel) (pa_cons (pe_lc (own := [("number", 2)]) (g := gName 2) (by rfl) nd (kTup (K := K) (pv 0)) (blkOk_by (own := [("number", 2)]) (N := N_are_wholes) (sc := defScope s_are_wholes) (by decide +kernel)) (fun _ _ _ _ _ => (pg_name (i := 2) nd rfl (Or.inl rfl))) (fun _ _ _ _ _ => pts_nil) (fun _ _ _ _ _ => (pe_cl C_is_whole (hr.mono (by decide)) (by rfl) (pa_cons (pv 2) pa_nil)))) pa_nil))))))), ?_⟩
  intro B ks O Φ hl ⟨v, e1, e2, q⟩
  subst e1 e2
  walk_at "sk"
  refine ev_lcF (ei_tup (ev_var rfl ⟨_, rfl, PyData, _, Kn.dat, fun _ => some (.bool true), rfl, by simp, (fun q hq => nomatch hq), fun d hd => ?_, fun p => ?_⟩)) (own_name (by decide))
  · obtain ⟨n, rfl⟩ : ∃ n, d = .int n := by
      simp at hd
      rcases hd with h | h | h <;> exact ⟨_, h⟩
    refine tg_name (et_yes ⟨fun _ => ?_, fun e => nomatch e⟩)
    walk_at "sk"
    refine ⟨rfl, callK0 ⟨n, rfl, rfl, ?_⟩⟩
    exact ⟨_, rfl, rfl, sub_refl _⟩
  · walk_at "sk"
    refine oc_all (bs := [true, true, true]) (List.mem_cons_self ..) ?_
    exact ⟨_, sub_nil _, q⟩

def w_is_some_triple : WT := fun ks O Φ => ∃ v : V3, ks = [.dat v.d] ∧ v.nz ∧ O = [] ∧ Φ (.dat (.bool true)) []
theorem cl_is_some_triple (T : Bt mg) (F : Df K mg "is_some_triple" s_is_some_triple f fd) (C_are_wholes : Cl P w K mg base "are_wholes" 2 2 w_are_wholes) : Cl P w K mg base "is_some_triple" 3 1 w_is_some_triple := by
  have nd := sc_is_some_triple.nd
  refine cl_of 2 1 F sc_is_some_triple rfl (fun _ _ _ _ _ _ us hl => match us, hl with | [_], _ => rfl) fun cdv A outer s H E hr => ⟨_, (pss_one (ps_ret (pe_and (pe_cl C_are_wholes (hr.mono (by decide)) (by rfl) (pa_cons (pv 0) (pa_cons pe_int pa_nil))) (pe_one (pe_not (pe_and (pe_cmpR (kEqD (K := K) hr.units) (pe_ix (kIx (K := K)) (pv 0) pe_int (fun _ _ => rfl)) pe_int (nomark _)) (pe_and (pe_cmpR (kEqD (K := K) hr.units) (pe_ix (kIx (K := K)) (pv 0) pe_int (fun _ _ => rfl)) pe_int (nomark _)) (pe_one (pe_cmpR (kEqD (K := K) hr.units) (pe_ix (kIx (K := K)) (pv 0) pe_int (fun _ _ => rfl)) pe_int (nomark _)))))))))), ?_⟩
  intro B ks O Φ hl ⟨v, e1, hv, e2, q⟩
  subst e1 e2
  walk_at "sk"
  refine ⟨rfl, callK0 ⟨v, rfl, rfl, true, rfl, fun _ => ?_, fun h => nomatch h⟩⟩
  walk_at "sk"
  have en : ∀ n : Int, PyData.eqv (.int n) (.int 0) = (n == 0) := fun n => by simp only [PyData.eqv]
  rw [en]
  refine ⟨fun h1 => ?_, fun h1 => ?_⟩
  · walk_at "sk"
    rw [en]
    refine ⟨fun h2 => ?_, fun h2 => ?_⟩
    · walk_at "sk"
      rw [en]
      have h3 : (v.z == 0) = false := by
        rw [beq_iff_eq] at h1 h2
        exact beq_false_of_ne fun e => hv ⟨h1, h2, e⟩
      rw [h3]
      exact ⟨_, sub_nil _, q⟩
    · exact ⟨_, rfl, _, sub_nil _, q⟩
  · exact ⟨_, rfl, _, sub_nil _, q⟩

def w_is_tree (n : Nat) : WT := fun ks O Φ => ∃ (t : Tr) (m : Int), ks = [.dat t.d, .dat (.int m)] ∧ t.fit ∧ t.dep ≤ n ∧ n ≤ 20 ∧ (t.dep : Int) ≤ m ∧ O = [] ∧ Φ (.dat (.bool true)) []
theorem Tr.dep_pos (t : Tr) : 1 ≤ t.dep := by cases t <;> (rw [Tr.dep]; omega)
theorem all_map_true {α : Type} (l : List α) : (l.filterMap fun _ => some (PyData.bool true)) = (l.map fun _ => true).map PyData.bool := by
  rw [fm_some, List.map_map]; rfl
theorem all_true {α : Type} (l : List α) : ((l.map fun _ => true).all id) = true := by simp
theorem cl_is_tree (T : Bt mg) (F : Df K mg "is_tree" s_is_tree f fd) (C_is_some_triple : Cl P w K mg base "is_some_triple" 3 1 w_is_some_triple) : ∀ n, Cl P w K mg base "is_tree" (4 + n) 2 (w_is_tree n)
  | 0 => cl_none F (ps := ["value", "deep"]) (fun _ _ _ _ _ _ us hl => match us, hl with | [_, _], _ => rfl) fun ks O Φ ⟨t, m, _, _, h, _⟩ => by have := t.dep_pos; omega
  | n + 1 => by
    have C_is_tree := cl_is_tree T F C_is_some_triple n
    show Cl P w K mg base "is_tree" (4 + n + 1) 2 (w_is_tree (n + 1))
    have nd := sc_is_tree.nd
    refine cl_of (4+n) 2 F sc_is_tree rfl (fun _ _ _ _ _ _ us hl => match us, hl with | [_, _], _ => rfl) fun cdv A outer s H E hr => ⟨_, (pss_cons (ps_if (PW.pt (pw_or (pt_cmpR (kEqD (K := K) hr.units) (pv 1) pe_int (nomark _)) (pw_or (pt_not (pt_val (pe_callB (kIsi (K := K)) (by rfl) T.isinstance_ (by decide +kernel) (pa_cons (pv 0) (pa_cons (pe_bltn (v := .ty "tuple") (u := .type "tuple") (by rfl) T.tuple_ (by decide +kernel) rfl) pa_nil))))) (pw_or (pt_cmpR (kEqD (K := K) hr.units) (pv 0) (pe_tup pa_nil) (nomark _)) (pw_or1 (pt_not (pt_val (pe_callB (kIsi (K := K)) (by rfl) T.isinstance_ (by decide +kernel) (pa_cons (pe_ix (kIx (K := K)) (pv 0) pe_int (fun _ _ => rfl)) (pa_cons (pe_bltn (v := .ty "str") (u := .type "str") (by rfl) T.str_ (by decide +kernel) rfl) pa_nil)))))))))) (pss_one (ps_ret pe_bl)) pss_nil)
      (pss_cons (ps_if (pt_cmpR (kEqD (K := K) hr.units) (pe_ix (kIx (K := K)) (pv 0) pe_int (fun _ _ => rfl)) pe_str (nomark _)) (pss_one (ps_ret (pe_cmpR (kEqD (K := K) hr.units) (pe_callB (kLen (K := K)) (by rfl) T.len_ (by decide +kernel) (pa_cons (pv 0) pa_nil)) pe_int (nomark _)))) pss_nil)
      (pss_cons (ps_if (PW.pt (pw_or (pt_cmpR (kNeD (K := K) hr.units) (pe_callB (kLen (K := K)) (by rfl) T.len_ (by decide +kernel) (pa_cons (pv 0) pa_nil)) pe_int (nomark _)) (pw_or1 (pt_cmpR (kNotIn (K := K)) (pe_ix (kIx (K := K)) (pv 0) pe_int (fun _ _ => rfl)) (pe_tup (pa_cons pe_str (pa_cons pe_str (pa_cons pe_str (pa_cons pe_str (pa_cons pe_str pa_nil)))))) (by with_unfolding_all rfl))))) (pss_one (ps_ret pe_bl)) pss_nil)
      (pss_cons (ps_if (pt_cmpR (kIn (K := K)) (pe_ix (kIx (K := K)) (pv 0) pe_int (fun _ _ => rfl)) (pe_tup (pa_cons pe_str (pa_cons pe_str pa_nil))) (by with_unfolding_all rfl)) (pss_one (ps_ret (pe_cl C_is_some_triple (hr.mono (by omega)) (by rfl) (pa_cons (pe_ix (kIx (K := K)) (pv 0) pe_int (fun _ _ => rfl)) pa_nil)))) pss_nil)
      (pss_cons (ps_if (pt_cmpR (kEqD (K := K) hr.units) (pe_ix (kIx (K := K)) (pv 0) pe_int (fun _ _ => rfl)) pe_str (nomark _)) (pss_one (ps_ret (pe_cl C_is_tree (hr.mono (by omega)) (by rfl) (pa_cons (pe_ix (kIx (K := K)) (pv 0) pe_int (fun _ _ => rfl)) (pa_cons (pe_op op_sub (pv 1) pe_int) pa_nil))))) pss_nil)
      (pss_cons (ps_if (PW.pt (pw_or (pt_not (pt_val (pe_callB (kIsi (K := K)) (by rfl) T.isinstance_ (by decide +kernel) (pa_cons (pe_ix (kIx (K := K)) (pv 0) pe_int (fun _ _ => rfl)) (pa_cons (pe_bltn (v := .ty "tuple") (u := .type "tuple") (by rfl) T.tuple_ (by decide +kernel) rfl) pa_nil))))) (pw_or1 (pt_not (pt_chain op_le op_le pe_int (pe_callB (kLen (K := K)) (by rfl) T.len_ (by decide +kernel) (pa_cons (pe_ix (kIx (K := K)) (pv 0) pe_int (fun _ _ => rfl)) pa_nil)) (pe_cst (by rfl) T.trees)))))) (pss_one (ps_ret pe_bl)) pss_nil)
      (pss_one (ps_ret (pe_callB (kAll (K := K) rfl) (by rfl) T.all_ (by decide +kernel) (pa_cons (pe_lc (own := [("tree", 2)]) (g := gName 2) (by rfl) nd (kTup (K := K) (pe_ix (kIx (K := K)) (pv 0) pe_int (fun _ _ => rfl))) (blkOk_by (own := [("tree", 2)]) (N := N_is_tree) (sc := defScope s_is_tree) (by decide +kernel)) (fun _ _ _ _ _ => (pg_name (i := 2) nd rfl (Or.inl rfl))) (fun _ _ _ _ _ => pts_nil) (fun _ _ _ _ _ => (pe_cl C_is_tree (hr.mono (by omega)) (by rfl) (pa_cons (pv 2) (pa_cons (pe_op op_sub (pv 1) pe_int) pa_nil))))) pa_nil)))))))))), ?_⟩
    intro B ks O Φ hl ⟨t, m, e1, hf, hd, h20, hm, e2, q⟩
    subst e1 e2
    have hm0 : PyData.eqv (.int m) (.int 0) = false := by
      have := t.dep_pos
      have e : PyData.eqv (.int m) (.int 0) = (m == 0) := by simp only [PyData.eqv]
      rw [e]
      exact beq_false_of_ne (by omega)
    have hs := Tr.shaped (t := t) (by omega)
    cases t with
    | all =>
      walk_at "sk"
      refine pickF hm0 ?_
      walk_at "sk"
      exact ⟨_, sub_nil _, q⟩
    | leaf s v =>
      rw [Tr.fit] at hf
      cases s
      all_goals
        walk_at "sk"
        refine pickF hm0 ?_
        walk_at "sk"
        refine o_eqD (.dat _) (.dat _) hs (by rfl) ?_
        walk_at "sk"
        refine ⟨rfl, callK0 ⟨v, rfl, hf.1, rfl, ?_⟩⟩
        exact ⟨_, sub_nil _, q⟩
    | not t =>
      rw [Tr.fit] at hf
      rw [Tr.dep] at hd hm
      walk_at "sk"
      refine pickF hm0 ?_
      walk_at "sk"
      refine o_eqD (.dat _) (.dat _) hs (by rfl) ?_
      walk_at "sk"
      refine ⟨rfl, callK0 ⟨t, m - 1, rfl, hf, by omega, by omega, by omega, rfl, ?_⟩⟩
      exact ⟨_, sub_nil _, q⟩
    | grp a ts =>
      rw [Tr.fit] at hf
      rw [Tr.dep] at hd hm
      have hlen : (Tr.dL ts).length = ts.length := by rw [Tr.dL_map, List.length_map]
      cases a
      all_goals
        walk_at "sk"
        refine pickF hm0 ?_
        walk_at "sk"
        refine o_eqD (.dat _) (.dat _) hs (by rfl) ?_
        walk_at "sk"
        refine pickT (decide_eq_true (by omega)) ?_
        walk_at "sk"
        refine pickF (by rw [decide_eq_true (by omega)]; rfl) ?_
        walk_at "sk"
        refine ev_lcF (ei_tup ?_) (own_name (by decide))
        walk_at "sk"
        refine ⟨Tr, ts, fun t => .dat t.d, fun _ => some (.bool true), by rw [Tr.dL_map, List.map_map]; rfl, by omega, (fun q hq => nomatch hq), fun t ht => ?_, fun p => ?_⟩
        · refine tg_name (et_yes ⟨fun _ => ?_, fun e => nomatch e⟩)
          walk_at "sk"
          refine ⟨rfl, callK0 ⟨t, m - 1, rfl, Tr.fitL_all.mp hf.2.2 t ht, Tr.depL_le.mp (by omega) t ht, by omega, ?_, rfl, ?_⟩⟩
          · have := Tr.depL_le.mp (Nat.le_refl _) t ht
            omega
          · exact ⟨_, rfl, rfl, sub_refl _⟩
        · walk_at "sk"
          refine oc_all (bs := ts.map fun _ => true) (by rw [← all_map_true]; exact List.mem_cons_self ..) ?_
          rw [all_true]
          exact ⟨_, sub_nil _, q⟩
end
end Sk


/-! Lo2: trees walked -/
namespace Sk
open PySem PySem.Spec PyProof.Rows L2
local macro_rules | `(tactic| walk_at "sk") => `(tactic| repeat' (first
  | ((with_reducible show Ev _ (tVar _) _ _ _); refine ev_var rfl ?_) | with_reducible refine ev_int ?_ | with_reducible refine ev_bl ?_ | with_reducible refine ev_non ?_ | with_reducible refine ev_str ?_ | with_reducible refine ev_ty ?_ | with_reducible refine ev_ref ?_
  | with_reducible refine ev_op ?_ | with_reducible refine ev_un ?_ | with_reducible refine ev_cb ?_ | with_reducible refine ea_cons ?_ | with_reducible refine ea_nil ?_
  | with_reducible refine ev_if ?_ | with_reducible refine ev_and ?_ | with_reducible refine ev_or ?_ | with_reducible refine ev_not ?_ | with_reducible refine ev_tup ?_ | with_reducible refine ev_call ?_
  | with_reducible refine sx_seq ?_ | with_reducible refine sx_asg ?_ | with_reducible refine tg_name ?_ | with_reducible refine sx_ret ?_ | with_reducible refine sx_next ?_ | with_reducible refine sx_drop ?_ | with_reducible refine sx_if ?_
  | with_reducible refine et_chain ?_ | with_reducible refine et_test ?_ | with_reducible refine et_B ?_ | with_reducible refine et_not ?_ | with_reducible refine et_and ?_ | with_reducible refine et_or ?_
  | with_reducible refine o_add ?_ | with_reducible refine o_sub ?_ | with_reducible refine o_lt ?_ | with_reducible refine o_le ?_ | with_reducible refine o_gt ?_ | with_reducible refine o_ge ?_
  | with_reducible refine o_neg ?_ | with_reducible refine o_subB ?_ | with_reducible refine o_mul ?_ ?_
  | ((with_reducible show Op2 _ (rIx _) _ _ _ _); refine o_ix (.tup _) rfl ?_)
  | ((with_reducible show Op2 _ (rEqD _) _ _ _ _); (first | refine o_eqD (.dat _) (.dat _) rfl rfl ?_ | refine o_eqD (.dat _) (.dat _) (by decide +kernel) (by decide +kernel) ?_))
  | ((with_reducible show Op2 _ (rNeD _) _ _ _ _); (first | refine o_neD (.dat _) (.dat _) rfl rfl ?_ | refine o_neD (.dat _) (.dat _) (by decide +kernel) (by decide +kernel) ?_))
  | ((with_reducible show Op2 _ (rIn _ false) _ _ _ _); refine o_in (.tup _) (by rfl) (by rfl) ?_) | ((with_reducible show Op2 _ (rIn _ true) _ _ _ _); refine o_notIn (.tup _) (by rfl) (by rfl) ?_)
  | ((with_reducible show OpC _ (rIsi _) _ _ _); (first | refine oc_isi (b := true) (by rfl) ?_ | refine oc_isi (b := false) (by rfl) ?_))
  | ((with_reducible show OpC _ _ _ _ _); refine oc_len (.tup _) ?_)
  | ((with_reducible show Tg _ (gTup _ _ _) _ _ _ _); (first | with_reducible refine tg_pair ?_ | refine tg_tup rfl ?_)) | ((with_reducible show Tgs _ (gCons _ _) _ _ _ _); refine tgs_cons ?_) | ((with_reducible show Tgs _ gNil _ _ _ _); refine tgs_nil ?_)
  | ((with_reducible show ∃ ds, alld _ ds ∧ _); (first
    | refine ⟨[_, _, _], ⟨rfl, rfl, rfl, trivial⟩, Nat.le_of_ble_eq_true rfl, ?_⟩ | refine ⟨[_, _], ⟨rfl, rfl, trivial⟩, Nat.le_of_ble_eq_true rfl, ?_⟩ | refine ⟨[_], ⟨rfl, trivial⟩, Nat.le_of_ble_eq_true rfl, ?_⟩ | refine ⟨[], trivial, Nat.le_of_ble_eq_true rfl, ?_⟩
    | refine ⟨[_, _, _, _], ⟨rfl, rfl, rfl, rfl, trivial⟩, Nat.le_of_ble_eq_true rfl, ?_⟩ | refine ⟨[_, _, _, _, _], ⟨rfl, rfl, rfl, rfl, rfl, trivial⟩, Nat.le_of_ble_eq_true rfl, ?_⟩ | refine ⟨[_, _, _, _, _, _], ⟨rfl, rfl, rfl, rfl, rfl, rfl, trivial⟩, Nat.le_of_ble_eq_true rfl, ?_⟩
    | refine ⟨[_, _, _, _, _, _, _], ⟨rfl, rfl, rfl, rfl, rfl, rfl, rfl, trivial⟩, Nat.le_of_ble_eq_true rfl, ?_⟩))
  | ((with_reducible show (_ = true → _) ∧ (_ = false → _)); (first | refine pickT rfl ?_ | refine pickF rfl ?_))
  | ((with_reducible show ∃ _, Kn.dat (PyData.bool _) = Kn.dat (PyData.bool _) ∧ _); refine ⟨_, rfl, ?_⟩)
  | ((with_reducible show ∃ _, Kn.dat _ = Kn.dat _ ∧ _); refine ⟨_, rfl, ?_⟩) | fail))

section
variable {P : Program} {w : World} {K : PySem.W.Frag} {mg : Str → Option Value} {base : Heap} {f : Addr} {fd : FuncData}

def Tr.kids : Tr → List Tr
  | .not t => [t]
  | .grp _ ts => ts
  | _ => []
def w_trees_in : WT := fun ks O Φ => ∃ t : Tr, ks = [.dat t.d] ∧ O = [] ∧ ∀ p, Φ (.ptr p) [(p, .lst (t.kids.map Tr.d))]
theorem cl_trees_in (T : Bt mg) (F : Df K mg "trees_in" s_trees_in f fd) : Cl P w K mg base "trees_in" 1 1 w_trees_in := by
  have nd := sc_trees_in.nd
  refine cl_of 0 1 F sc_trees_in rfl (fun _ _ _ _ _ _ us hl => match us, hl with | [_], _ => rfl) fun cdv A outer s H E hr => ⟨_, (pss_one (ps_ret (pe_ifExp (pt_cmpR (kEqD (K := K) hr.units) (pe_ix (kIx (K := K)) (pv 0) pe_int (fun _ _ => rfl)) pe_str (nomark _)) (pe_lst (pa_cons (pe_ix (kIx (K := K)) (pv 0) pe_int (fun _ _ => rfl)) pa_nil)) (pe_ifExp (pt_cmpR (kIn (K := K)) (pe_ix (kIx (K := K)) (pv 0) pe_int (fun _ _ => rfl)) (pe_tup (pa_cons pe_str (pa_cons pe_str pa_nil))) (by with_unfolding_all rfl)) (pe_callTy (kListOf (K := K)) (by rfl) T.list_ (by decide +kernel) (pa_cons (pe_ix (kIx (K := K)) (pv 0) pe_int (fun _ _ => rfl)) pa_nil)) (pe_lst pa_nil))))), ?_⟩
  intro B ks O Φ hl ⟨t, e1, e2, q⟩
  subst e1 e2
  cases t with
  | all =>
    walk_at "sk"
    refine ev_lst ?_
    walk_at "sk"
    exact fun p => ⟨_, sub_refl _, q p⟩
  | leaf s v =>
    cases s
    all_goals
      walk_at "sk"
      refine ev_lst ?_
      walk_at "sk"
      exact fun p => ⟨_, sub_refl _, q p⟩
  | not t =>
    walk_at "sk"
    refine ev_lst ?_
    walk_at "sk"
    exact fun p => ⟨_, sub_refl _, q p⟩
  | grp a ts =>
    cases a
    all_goals
      walk_at "sk"
      refine oc_list (.tup _) fun l => ⟨_, sub_refl _, ?_⟩
      rw [Tr.dL_map]
      exact q l

def w_leaf_planes (n : Nat) : WT := fun ks O Φ => ∃ t : Tr, ks = [.dat t.d] ∧ t.dep ≤ n ∧ t.leaves.length ≤ 24 ∧ O = [] ∧ ∀ p, Φ (.ptr p) [(p, .lst (t.leaves.map V3.d))]
theorem Tr.leaves_kids (t : Tr) (h : ∀ s v, t ≠ .leaf s v) : t.leaves = t.kids.flatMap Tr.leaves := by
  cases t with
  | all => rfl
  | leaf s v => exact absurd rfl (h s v)
  | not t => simp [Tr.leaves, Tr.kids]
  | grp a ts => rw [Tr.leaves, Tr.kids, Tr.leavesL_flat]
theorem Tr.kids_dep {t u : Tr} (h : u ∈ t.kids) : u.dep + 1 ≤ t.dep := by
  cases t with
  | all => simp [Tr.kids] at h
  | leaf s v => simp [Tr.kids] at h
  | not t =>
    simp [Tr.kids] at h
    subst h
    rw [Tr.dep]; omega
  | grp a ts =>
    have := (Tr.depL_le (ts := ts)).mp (Nat.le_refl _) u h
    rw [Tr.dep]; omega
theorem Tr.kids_leaves {t u : Tr} (h : u ∈ t.kids) : u.leaves.length ≤ t.leaves.length := by
  cases t with
  | all => simp [Tr.kids] at h
  | leaf s v => simp [Tr.kids] at h
  | not t =>
    simp [Tr.kids] at h
    subst h
    rw [Tr.leaves]; omega
  | grp a ts =>
    rw [Tr.leaves]
    exact Tr.leaves_le h
theorem cl_leaf_planes (T : Bt mg) (F : Df K mg "leaf_planes" s_leaf_planes f fd) (C_trees_in : Cl P w K mg base "trees_in" 1 1 w_trees_in) : ∀ n, Cl P w K mg base "leaf_planes" (2 + n) 1 (w_leaf_planes n)
  | 0 => cl_none F (ps := ["tree"]) (fun _ _ _ _ _ _ us hl => match us, hl with | [_], _ => rfl) fun ks O Φ ⟨t, _, h, _⟩ => by have := t.dep_pos; omega
  | n + 1 => by
    have C_leaf_planes := cl_leaf_planes T F C_trees_in n
    show Cl P w K mg base "leaf_planes" (2 + n + 1) 1 (w_leaf_planes (n + 1))
    have nd := sc_leaf_planes.nd
    refine cl_of (2+n) 1 F sc_leaf_planes rfl (fun _ _ _ _ _ _ us hl => match us, hl with | [_], _ => rfl) fun cdv A outer s H E hr => ⟨_, (pss_cons (ps_if (pt_cmpR (kIn (K := K)) (pe_ix (kIx (K := K)) (pv 0) pe_int (fun _ _ => rfl)) (pe_tup (pa_cons pe_str (pa_cons pe_str pa_nil))) (by with_unfolding_all rfl)) (pss_one (ps_ret (pe_lst (pa_cons (pe_ix (kIx (K := K)) (pv 0) pe_int (fun _ _ => rfl)) pa_nil)))) pss_nil)
      (pss_one (ps_ret (pe_lc2 (own := [("each", 1), ("plane", 2)]) (vs1 := [2]) (by rfl) nd (kList (K := K) (pe_cl C_trees_in (hr.mono (by omega)) (by rfl) (pa_cons (pv 0) pa_nil))) (blkOk_by (own := [("each", 1), ("plane", 2)]) (N := N_leaf_planes) (sc := defScope s_leaf_planes) (by decide +kernel)) (by decide) (fun _ _ _ _ _ => (pg_name (i := 1) nd rfl (Or.inl rfl))) (fun _ _ _ _ _ => pts_nil) (fun _ _ _ _ _ => (kList (K := K) (pe_cl C_leaf_planes (hr.mono (by omega)) (by rfl) (pa_cons (pv 1) pa_nil)))) (fun _ _ _ _ _ => (pg_name (i := 2) nd rfl (Or.inl rfl))) (fun _ _ _ _ _ => pts_nil) (fun _ _ _ _ _ => (pv 2)))))), ?_⟩
    intro B ks O Φ hl ⟨t, e1, hd, h24, e2, q⟩
    subst e1 e2
    have rest : (∀ s v, t ≠ .leaf s v) → Ev B (tLc2 (iList K (tCall (spW 1 w_trees_in) [] E0 (tCons (tVar 0) tNil))) (gName 1) tYes (iList K (tCall (spW 1 (w_leaf_planes n)) [] E0 (tCons (tVar 1) tNil))) (gName 2) tYes (tVar 2) [1, 2] [2]) [some (.dat t.d), none, none] [] (endsOf Φ).rt := fun hne => by
      refine ev_lc2 (ei_list ?_) (own_name (by decide)) (own_name (by decide))
      walk_at "sk"
      refine ⟨rfl, callK0 ⟨t, rfl, rfl, fun p => ⟨p, _, rfl, List.mem_cons_self .., Tr, t.kids, fun u => .dat u.d, fun u => u.leaves.map V3.d, by rw [List.map_map]; rfl, ?_, fun q hq => hq, fun u hu => ?_, fun p' => ?_⟩⟩⟩
      · rw [← List.map_flatMap, ← t.leaves_kids hne, List.length_map]; omega
      · refine tg_name (et_yes ⟨rfl, ?_⟩)
        refine ei_list ?_
        walk_at "sk"
        refine ⟨rfl, callK0 ⟨u, rfl, by have := Tr.kids_dep hu; omega, Nat.le_trans (Tr.kids_leaves hu) h24, rfl, fun p2 => ⟨p2, _, rfl, List.mem_cons_self .., Kn.dat, rfl, fun q hq => ?_, sub_cons (sub_refl _), fun d hd => ?_⟩⟩⟩
        · rw [List.mem_singleton] at hq
          rw [hq]
          exact List.mem_cons_self ..
        · refine tg_name (et_yes ⟨rfl, ?_⟩)
          walk_at "sk"
          exact ⟨rfl, sub_refl _⟩
      · refine ⟨_, sub_keep (sub_nil _), ?_⟩
        rw [← List.map_flatMap, ← t.leaves_kids hne]
        exact q p'
    cases t with
    | all =>
      walk_at "sk"
      exact rest fun s v e => nomatch e
    | leaf s v =>
      cases s
      all_goals
        walk_at "sk"
        refine ev_lst ?_
        walk_at "sk"
        exact fun p => ⟨_, sub_refl _, q p⟩
    | not t =>
      walk_at "sk"
      exact rest fun s v e => nomatch e
    | grp a ts =>
      cases a
      all_goals
        walk_at "sk"
        exact rest fun s v e => nomatch e

def w_with_reduced (n : Nat) : WT := fun ks O Φ => ∃ t : Tr, ks = [.dat t.d] ∧ t.dep ≤ n ∧ t.fit ∧ O = [] ∧ Φ (.dat t.red.d) []
theorem cl_with_reduced (T : Bt mg) (F : Df K mg "with_reduced" s_with_reduced f fd) (C_lowest : Cl P w K mg base "lowest" 2 1 w_lowest) : ∀ n, Cl P w K mg base "with_reduced" (3 + n) 1 (w_with_reduced n)
  | 0 => cl_none F (ps := ["tree"]) (fun _ _ _ _ _ _ us hl => match us, hl with | [_], _ => rfl) fun ks O Φ ⟨t, _, h, _⟩ => by have := t.dep_pos; omega
  | n + 1 => by
    have C_with_reduced := cl_with_reduced T F C_lowest n
    show Cl P w K mg base "with_reduced" (3 + n + 1) 1 (w_with_reduced (n + 1))
    have nd := sc_with_reduced.nd
    refine cl_of (3+n) 1 F sc_with_reduced rfl (fun _ _ _ _ _ _ us hl => match us, hl with | [_], _ => rfl) fun cdv A outer s H E hr => ⟨_, (pss_cons (ps_if (pt_cmpR (kIn (K := K)) (pe_ix (kIx (K := K)) (pv 0) pe_int (fun _ _ => rfl)) (pe_tup (pa_cons pe_str (pa_cons pe_str pa_nil))) (by with_unfolding_all rfl)) (pss_one (ps_ret (pe_tup (pa_cons (pe_ix (kIx (K := K)) (pv 0) pe_int (fun _ _ => rfl)) (pa_cons (pe_cl C_lowest (hr.mono (by omega)) (by rfl) (pa_cons (pe_ix (kIx (K := K)) (pv 0) pe_int (fun _ _ => rfl)) pa_nil)) pa_nil))))) pss_nil)
      (pss_cons (ps_if (pt_cmpR (kEqD (K := K) hr.units) (pe_ix (kIx (K := K)) (pv 0) pe_int (fun _ _ => rfl)) pe_str (nomark _)) (pss_one (ps_ret (pe_tup (pa_cons pe_str (pa_cons (pe_cl C_with_reduced (hr.mono (by omega)) (by rfl) (pa_cons (pe_ix (kIx (K := K)) (pv 0) pe_int (fun _ _ => rfl)) pa_nil)) pa_nil))))) pss_nil)
      (pss_one (ps_ret (pe_ifExp (pt_cmpR (kEqD (K := K) hr.units) (pe_ix (kIx (K := K)) (pv 0) pe_int (fun _ _ => rfl)) pe_str (nomark _)) (pv 0) (pe_tup (pa_cons (pe_ix (kIx (K := K)) (pv 0) pe_int (fun _ _ => rfl)) (pa_cons (pe_callTy (kTupleOf (K := K)) (by rfl) T.tuple_ (by decide +kernel) (pa_cons (pe_lc (own := [("each", 1)]) (g := gName 1) (by rfl) nd (kTup (K := K) (pe_ix (kIx (K := K)) (pv 0) pe_int (fun _ _ => rfl))) (blkOk_by (own := [("each", 1)]) (N := N_with_reduced) (sc := defScope s_with_reduced) (by decide +kernel)) (fun _ _ _ _ _ => (pg_name (i := 1) nd rfl (Or.inl rfl))) (fun _ _ _ _ _ => pts_nil) (fun _ _ _ _ _ => (pe_cl C_with_reduced (hr.mono (by omega)) (by rfl) (pa_cons (pv 1) pa_nil)))) pa_nil)) pa_nil)))))))), ?_⟩
    intro B ks O Φ hl ⟨t, e1, hd, hf, e2, q⟩
    subst e1 e2
    cases t with
    | all =>
      walk_at "sk"
      exact ⟨_, sub_nil _, q⟩
    | leaf s v =>
      rw [Tr.fit] at hf
      cases s
      all_goals
        walk_at "sk"
        refine ⟨rfl, callK0 ⟨v.l, rfl, by simp, hf.2.gOk (by decide) hf.1, rfl, ?_⟩⟩
        walk_at "sk"
        exact ⟨_, sub_nil _, q⟩
    | not t =>
      rw [Tr.fit] at hf
      rw [Tr.dep] at hd
      walk_at "sk"
      refine ⟨rfl, callK0 ⟨t, rfl, by omega, hf, rfl, ?_⟩⟩
      walk_at "sk"
      exact ⟨_, sub_nil _, q⟩
    | grp a ts =>
      rw [Tr.fit] at hf
      rw [Tr.dep] at hd
      cases a
      all_goals
        walk_at "sk"
        refine ev_lcF (ei_tup ?_) (own_name (by decide))
        walk_at "sk"
        refine ⟨Tr, ts, fun t => .dat t.d, fun t => some t.red.d, by rw [Tr.dL_map, List.map_map]; rfl, by omega, (fun q hq => nomatch hq), fun t ht => ?_, fun p => ?_⟩
        · refine tg_name (et_yes ⟨fun _ => ?_, fun e => nomatch e⟩)
          walk_at "sk"
          refine ⟨rfl, callK0 ⟨t, rfl, Tr.depL_le.mp (by omega) t ht, Tr.fitL_all.mp hf.2.2 t ht, rfl, ?_⟩⟩
          exact ⟨_, rfl, rfl, sub_refl _⟩
        · walk_at "sk"
          refine oc_tuple (.lst (List.mem_cons_self ..)) ?_ ?_
          · rw [fm_some, List.length_map]; omega
          · walk_at "sk"
            refine ⟨_, sub_nil _, ?_⟩
            rw [Tr.red, Tr.d, Tr.dL_map, Tr.redL_map, List.map_map] at q
            rw [fm_some]
            exact q
end
end Sk


/-! Lo3: planes of trees; trees under signs; lots made -/
namespace Sk
open PySem PySem.Spec PyProof.Rows L2
local macro_rules | `(tactic| walk_at "sk") => `(tactic| repeat' (first
  | ((with_reducible show Ev _ (tVar _) _ _ _); refine ev_var rfl ?_) | with_reducible refine ev_int ?_ | with_reducible refine ev_bl ?_ | with_reducible refine ev_non ?_ | with_reducible refine ev_str ?_ | with_reducible refine ev_ty ?_ | with_reducible refine ev_ref ?_
  | with_reducible refine ev_op ?_ | with_reducible refine ev_un ?_ | with_reducible refine ev_cb ?_ | with_reducible refine ea_cons ?_ | with_reducible refine ea_nil ?_
  | with_reducible refine ev_if ?_ | with_reducible refine ev_and ?_ | with_reducible refine ev_or ?_ | with_reducible refine ev_not ?_ | with_reducible refine ev_tup ?_ | with_reducible refine ev_call ?_
  | with_reducible refine sx_seq ?_ | with_reducible refine sx_asg ?_ | with_reducible refine tg_name ?_ | with_reducible refine sx_ret ?_ | with_reducible refine sx_next ?_ | with_reducible refine sx_drop ?_ | with_reducible refine sx_if ?_
  | with_reducible refine et_chain ?_ | with_reducible refine et_test ?_ | with_reducible refine et_B ?_ | with_reducible refine et_not ?_ | with_reducible refine et_and ?_ | with_reducible refine et_or ?_
  | with_reducible refine o_add ?_ | with_reducible refine o_sub ?_ | with_reducible refine o_lt ?_ | with_reducible refine o_le ?_ | with_reducible refine o_gt ?_ | with_reducible refine o_ge ?_
  | with_reducible refine o_neg ?_ | with_reducible refine o_subB ?_ | with_reducible refine o_mul ?_ ?_
  | ((with_reducible show Op2 _ (rIx _) _ _ _ _); refine o_ix (.tup _) rfl ?_)
  | ((with_reducible show Op2 _ (rEqD _) _ _ _ _); (first | refine o_eqD (.dat _) (.dat _) rfl rfl ?_ | refine o_eqD (.dat _) (.dat _) (by decide +kernel) (by decide +kernel) ?_))
  | ((with_reducible show Op2 _ (rNeD _) _ _ _ _); (first | refine o_neD (.dat _) (.dat _) rfl rfl ?_ | refine o_neD (.dat _) (.dat _) (by decide +kernel) (by decide +kernel) ?_))
  | ((with_reducible show Op2 _ (rIn _ false) _ _ _ _); refine o_in (.tup _) (by rfl) (by rfl) ?_) | ((with_reducible show Op2 _ (rIn _ true) _ _ _ _); refine o_notIn (.tup _) (by rfl) (by rfl) ?_)
  | ((with_reducible show OpC _ (rIsi _) _ _ _); (first | refine oc_isi (b := true) (by rfl) ?_ | refine oc_isi (b := false) (by rfl) ?_))
  | ((with_reducible show OpC _ _ _ _ _); refine oc_len (.tup _) ?_)
  | ((with_reducible show Tg _ (gTup _ _ _) _ _ _ _); (first | with_reducible refine tg_pair ?_ | refine tg_tup rfl ?_)) | ((with_reducible show Tgs _ (gCons _ _) _ _ _ _); refine tgs_cons ?_) | ((with_reducible show Tgs _ gNil _ _ _ _); refine tgs_nil ?_)
  | ((with_reducible show ∃ ds, alld _ ds ∧ _); (first
    | refine ⟨[_, _, _], ⟨rfl, rfl, rfl, trivial⟩, Nat.le_of_ble_eq_true rfl, ?_⟩ | refine ⟨[_, _], ⟨rfl, rfl, trivial⟩, Nat.le_of_ble_eq_true rfl, ?_⟩ | refine ⟨[_], ⟨rfl, trivial⟩, Nat.le_of_ble_eq_true rfl, ?_⟩ | refine ⟨[], trivial, Nat.le_of_ble_eq_true rfl, ?_⟩
    | refine ⟨[_, _, _, _], ⟨rfl, rfl, rfl, rfl, trivial⟩, Nat.le_of_ble_eq_true rfl, ?_⟩ | refine ⟨[_, _, _, _, _], ⟨rfl, rfl, rfl, rfl, rfl, trivial⟩, Nat.le_of_ble_eq_true rfl, ?_⟩ | refine ⟨[_, _, _, _, _, _], ⟨rfl, rfl, rfl, rfl, rfl, rfl, trivial⟩, Nat.le_of_ble_eq_true rfl, ?_⟩
    | refine ⟨[_, _, _, _, _, _, _], ⟨rfl, rfl, rfl, rfl, rfl, rfl, rfl, trivial⟩, Nat.le_of_ble_eq_true rfl, ?_⟩))
  | ((with_reducible show (_ = true → _) ∧ (_ = false → _)); (first | refine pickT rfl ?_ | refine pickF rfl ?_))
  | ((with_reducible show ∃ _, Kn.dat (PyData.bool _) = Kn.dat (PyData.bool _) ∧ _); refine ⟨_, rfl, ?_⟩)
  | ((with_reducible show ∃ _, Kn.dat _ = Kn.dat _ ∧ _); refine ⟨_, rfl, ?_⟩) | fail))

section
variable {P : Program} {w : World} {K : PySem.W.Frag} {mg : Str → Option Value} {base : Heap} {f : Addr} {fd : FuncData}

theorem tup_plV (t : Tr) : t.plV.map V3.d = t.plT.map tupI := by rw [← t.plV_l, List.map_map]; rfl
/-- what a tree of a lot keeps -/
structure TOk (n : Nat) (t : Tr) : Prop where
  fit : t.fit
  dep : t.dep ≤ n
  few : t.leaves.length ≤ 24
theorem keys_len {kvs : Kv} {xs : List Rw} (h : keys kvs = ddp xs) (h24 : xs.length ≤ 24) : kvs.length < 100000 := by
  have h1 : (keys kvs).length ≤ xs.length := by
    rw [h]
    exact nodup_le (ddp_facts xs).1 fun k hk => ((ddp_facts xs).2 k).mp hk
  unfold keys at h1
  rw [List.length_map] at h1
  omega
def w_planes_of_tree : WT := fun ks O Φ => ∃ t : Tr, ks = [.dat t.d] ∧ TOk 8 t ∧ O = [] ∧ Φ (.dat (.tuple (t.plV.map V3.d))) []
theorem cl_planes_of_tree (T : Bt mg) (F : Df K mg "planes_of_tree" s_planes_of_tree f fd) (C_leaf_planes : Cl P w K mg base "leaf_planes" 10 1 (w_leaf_planes 8)) (C_first_above : Cl P w K mg base "first_above" 3 1 w_first_above) :
    Cl P w K mg base "planes_of_tree" 11 1 w_planes_of_tree := by
  have nd := sc_planes_of_tree.nd
  refine cl_of 10 1 F sc_planes_of_tree rfl (fun _ _ _ _ _ _ us hl => match us, hl with | [_], _ => rfl) fun cdv A outer s H E hr => ⟨_, (pss_cons (ps_set (i := 1) nd rfl (Or.inl rfl) pe_dnewT)
      (pss_cons (ps_for PassesOwn.never rfl (kList (K := K) (pe_cl C_leaf_planes (hr.mono (by decide)) (by rfl) (pa_cons (pv 0) pa_nil))) (pg_name (i := 2) nd rfl (Or.inl rfl)) (pss_one (ps_dput (hu_of hr) (pv 1) (pe_cl C_first_above (hr.mono (by decide)) (by rfl) (pa_cons (pv 2) pa_nil)) pe_bl rfl)))
      (pss_one (ps_ret (pe_callTy (kTupleOf (K := K)) (by rfl) T.tuple_ (by decide +kernel) (pa_cons (pe_callB (kSorted (K := K) rfl hr.units) (by rfl) T.sorted_ (by decide +kernel) (pa_cons (pv 1) pa_nil)) pa_nil)))))), ?_⟩
  intro B ks O Φ hl ⟨t, e1, ht, e2, q⟩
  subst e1 e2
  walk_at "sk"
  refine ev_dnew fun r => ?_
  walk_at "sk"
  refine sx_for (ei_list ?_)
  walk_at "sk"
  refine ⟨rfl, callK0 ⟨t, rfl, ht.dep, ht.few, rfl, fun p => ⟨p, _, rfl, List.mem_cons_self .., fun i ρ' O' => ∃ kvs, O' = [(p, .lst (t.leaves.map V3.d)), (r, .dic kvs)] ∧ keys kvs = ddp ((t.leaves.take i).map fun v => v.fst.l) ∧ ∃ y, ρ' = [some (.dat t.d), some (.ptr r), y],
    ⟨[], rfl, rfl, _, rfl⟩, fun i ρ' O' _ hI q hq => ?_, fun i k ρ' O' hk hI => ?_, fun ρ' O' hI => ?_⟩⟩⟩
  · obtain ⟨kvs, rfl, _⟩ := hI
    rw [List.mem_singleton] at hq
    rw [hq]
    exact List.mem_cons_self ..
  · obtain ⟨kvs, rfl, hkeys, y, rfl⟩ := hI
    rw [List.getElem?_map, List.getElem?_map] at hk
    cases hv : t.leaves[i]? with
    | none => rw [hv] at hk; cases hk
    | some v =>
      rw [hv] at hk
      cases hk
      have hvf := Tr.fit_leaves ht.fit v (List.mem_of_getElem? hv)
      walk_at "sk"
      refine sx_dput ?_
      walk_at "sk"
      refine ⟨rfl, callK0 ⟨v.l, rfl, by simp, hvf.2.gOk (by decide) hvf.1, rfl, ?_⟩⟩
      refine ⟨r, kvs, firstI v.l, 1, rfl, rfl, rfl, keys_len hkeys (Nat.le_trans (by rw [List.length_map, List.length_take]; exact Nat.min_le_right _ _) ht.few), ?_⟩
      refine ⟨_, sub_refl _, _, rfl, ?_, _, rfl⟩
      rw [V3.l_fst hvf.1, keys_put, hkeys, List.take_add_one, hv, List.map_append]
      exact (ddp_snoc _ _).symm
  · obtain ⟨kvs, rfl, hkeys, y, rfl⟩ := hI
    rw [List.length_map, List.length_map, List.take_length] at hkeys
    walk_at "sk"
    refine oc_sorted (n := 3) (.dk (.dic (List.mem_cons_of_mem _ (List.mem_cons_self ..)))) (fun k hk => ?_) (.inl (by decide)) fun s => ?_
    · have hk : k ∈ keys kvs := hk
      rw [hkeys, (ddp_facts _).2] at hk
      obtain ⟨v, _, rfl⟩ := List.mem_map.mp hk
      rfl
    · walk_at "sk"
      refine oc_tuple (.lst (List.mem_cons_self ..)) ?_ ⟨_, sub_nil _, ?_⟩
      · rw [List.length_map, sortI_length, List.length_map]
        exact Nat.le_of_lt (keys_len hkeys (by rw [List.length_map]; exact ht.few))
      · rw [tup_plV] at q
        unfold Tr.plT at q
        rw [← hkeys] at q
        exact q

/-! ### trees under signs -/
theorem eqv_int (a b : Int) : PyData.eqv (.int a) (.int b) = (a == b) := by simp only [PyData.eqv]
theorem eqv_d (u v : V3) : PyData.eqv u.d v.d = decide (u = v) := by
  simp only [PyData.eqv, PyData.eqvAll, Bool.and_true]
  by_cases h : u = v
  · subst h; simp
  · rw [decide_eq_false h]
    by_cases hx : u.x = v.x
    · by_cases hy : u.y = v.y
      · have hz : u.z ≠ v.z := fun e => h (V3.ext' hx hy e)
        simp [hz]
      · simp [hy]
    · simp [hx]
theorem eqv_l (u v : V3) : PyData.eqv (tupI u.l) (tupI v.l) = decide (u = v) := eqv_d u v
def zipK (Ps : List V3) (k : Rw) : Kv := (Ps.map V3.l).zip (k.map PyData.int)
def w_tree_holds (n : Nat) : WT := fun ks O Φ => ∃ (t : Tr) (Ps : List V3) (k : Rw) (p : Addr), ks = [.dat t.d, .ptr p] ∧ t.fit ∧ t.dep ≤ n ∧ Ps.length = k.length ∧ (∀ v ∈ t.leaves, v.fst ∈ Ps) ∧ O = [(p, .dic (zipK Ps k))] ∧ Φ (.dat (.bool (t.hK Ps k))) [(p, .dic (zipK Ps k))]
theorem cl_tree_holds (T : Bt mg) (F : Df K mg "tree_holds" s_tree_holds f fd) (C_first_above : Cl P w K mg base "first_above" 3 1 w_first_above) (C_lowest : Cl P w K mg base "lowest" 2 1 w_lowest) : ∀ n, Cl P w K mg base "tree_holds" (4 + n) 2 (w_tree_holds n)
  | 0 => cl_none F (ps := ["tree", "signs"]) (fun _ _ _ _ _ _ us hl => match us, hl with | [_, _], _ => rfl) fun ks O Φ ⟨t, _, _, _, _, _, h, _⟩ => by have := t.dep_pos; omega
  | n + 1 => by
    have C_tree_holds := cl_tree_holds T F C_first_above C_lowest n
    show Cl P w K mg base "tree_holds" (4 + n + 1) 2 (w_tree_holds (n + 1))
    have nd := sc_tree_holds.nd
    refine cl_of (4+n) 2 F sc_tree_holds rfl (fun _ _ _ _ _ _ us hl => match us, hl with | [_, _], _ => rfl) fun cdv A outer s H E hr => ⟨_, (pss_cons (ps_if (pt_cmpR (kEqD (K := K) hr.units) (pe_ix (kIx (K := K)) (pv 0) pe_int (fun _ _ => rfl)) pe_str (nomark _)) (pss_one (ps_ret pe_bl)) pss_nil)
      (pss_cons (ps_if (pt_cmpR (kEqD (K := K) hr.units) (pe_ix (kIx (K := K)) (pv 0) pe_int (fun _ _ => rfl)) pe_str (nomark _)) (pss_one (ps_ret (pe_not (pe_cl C_tree_holds (hr.mono (by omega)) (by rfl) (pa_cons (pe_ix (kIx (K := K)) (pv 0) pe_int (fun _ _ => rfl)) (pa_cons (pv 1) pa_nil)))))) pss_nil)
      (pss_cons (ps_if (pt_cmpR (kIn (K := K)) (pe_ix (kIx (K := K)) (pv 0) pe_int (fun _ _ => rfl)) (pe_tup (pa_cons pe_str (pa_cons pe_str pa_nil))) (by with_unfolding_all rfl)) (pss_cons (ps_setLc (i := 4) (own := [("each", 5)]) (g := gName 5) (by rfl) nd rfl rfl (sw_true rfl rfl rfl (by decide +kernel)) (kTup (K := K) (pe_ix (kIx (K := K)) (pv 0) pe_int (fun _ _ => rfl))) (blkOk_by (own := [("each", 5)]) (N := N_tree_holds) (sc := defScope s_tree_holds) (by decide +kernel)) (fun _ _ _ _ _ => (pg_name (i := 5) nd rfl (Or.inl rfl))) (fun _ _ _ _ _ => pts_nil) (fun _ _ _ _ _ => (pe_cl C_tree_holds (hr.mono (by omega)) (by rfl) (pa_cons (pv 5) (pa_cons (pv 1) pa_nil)))))
      (pss_one (ps_ret (pe_ifExp (pt_cmpR (kEqD (K := K) hr.units) (pe_ix (kIx (K := K)) (pv 0) pe_int (fun _ _ => rfl)) pe_str (nomark _)) (pe_callB (kAll (K := K) rfl) (by rfl) T.all_ (by decide +kernel) (pa_cons (pv 4) pa_nil)) (pe_callB (kAny (K := K) rfl) (by rfl) T.any_ (by decide +kernel) (pa_cons (pv 4) pa_nil)))))) pss_nil)
      (pss_cons (ps_set (i := 2) nd rfl (Or.inl rfl) (pe_cl C_first_above (hr.mono (by omega)) (by rfl) (pa_cons (pe_ix (kIx (K := K)) (pv 0) pe_int (fun _ _ => rfl)) pa_nil)))
      (pss_cons (ps_set (i := 3) nd rfl (Or.inl rfl) (pe_ifExp (pt_cmpR (kEqD (K := K) hr.units) (pv 2) (pe_cl C_lowest (hr.mono (by omega)) (by rfl) (pa_cons (pe_ix (kIx (K := K)) (pv 0) pe_int (fun _ _ => rfl)) pa_nil)) (nomark _)) (pe_dget (hu_of hr) (pv 1) (pv 2) (fun _ _ => rfl)) (pe_un un_neg (pe_dget (hu_of hr) (pv 1) (pv 2) (fun _ _ => rfl)))))
      (pss_one (ps_ret (pe_cmpR (kEqD (K := K) hr.units) (pv 3) (pe_ifExp (pt_cmpR (kEqD (K := K) hr.units) (pe_ix (kIx (K := K)) (pv 0) pe_int (fun _ _ => rfl)) pe_str (nomark _)) pe_int pe_int) (nomark _))))))))), ?_⟩
    intro B ks O Φ hl ⟨t, Ps, k, p, e1, hf, hd, hlen, hP, e2, q⟩
    subst e1 e2
    cases t with
    | all =>
      walk_at "sk"
      exact ⟨_, sub_refl _, q⟩
    | leaf s v =>
      rw [Tr.fit] at hf
      have hp := hP v (by simp [Tr.leaves])
      have lk := look_zip (k := k) (P := Ps) hp hlen
      rw [Tr.hK] at q
      unfold hL at q
      cases s
      all_goals
        walk_at "sk"
        refine ⟨rfl, callK0 ⟨v.l, rfl, by simp, hf.2.gOk (by decide) hf.1, rfl, ?_⟩⟩
        rw [V3.l_fst hf.1]
        walk_at "sk"
        refine ⟨rfl, callK0 ⟨v.l, rfl, by simp, hf.2.gOk (by decide) hf.1, rfl, ?_⟩⟩
        rw [V3.l_low]
        walk_at "sk"
        rw [eqv_l]
        refine ⟨fun h => ?_, fun h => ?_⟩
        · have h := of_decide_eq_true h
          refine ev_dget ?_
          walk_at "sk"
          refine ⟨_, v.fst.l, _, .dic (List.mem_cons_self ..), rfl, lk, ?_⟩
          walk_at "sk"
          rw [eqv_int]
          rw [if_pos h] at q
          exact ⟨_, sub_refl _, q⟩
        · have h := of_decide_eq_false h
          walk_at "sk"
          refine ev_dget ?_
          walk_at "sk"
          refine ⟨_, v.fst.l, _, .dic (List.mem_cons_self ..), rfl, lk, ?_⟩
          walk_at "sk"
          rw [eqv_int]
          rw [if_neg h] at q
          exact ⟨_, sub_refl _, q⟩
    | not t =>
      rw [Tr.fit] at hf
      rw [Tr.dep] at hd
      rw [Tr.hK] at q
      walk_at "sk"
      refine ⟨rfl, [(p, .dic (zipK Ps k))], [], .refl _, t, Ps, k, p, rfl, hf, by omega, hlen, fun v hv => hP v (by rw [Tr.leaves]; exact hv), rfl, ?_⟩
      exact ⟨_, rfl, _, sub_refl _, q⟩
    | grp a ts =>
      rw [Tr.fit] at hf
      rw [Tr.dep] at hd
      cases a
      all_goals
        rw [Tr.hK, Tr.hKL_map] at q
        walk_at "sk"
        refine ev_lcF (ei_tup ?_) (own_name (by decide))
        walk_at "sk"
        refine ⟨Tr, ts, fun t => .dat t.d, fun t => some (.bool (t.hK Ps k)), by rw [Tr.dL_map, List.map_map]; rfl, by omega, (fun q hq => nomatch hq), fun t ht => ?_, fun r => ?_⟩
        · refine tg_name (et_yes ⟨fun _ => ?_, fun e => nomatch e⟩)
          walk_at "sk"
          refine ⟨rfl, [(p, .dic (zipK Ps k))], [], .refl _, t, Ps, k, p, rfl, Tr.fitL_all.mp hf.2.2 t ht, Tr.depL_le.mp (by omega) t ht, hlen, fun v hv => hP v (by rw [Tr.leaves]; exact Tr.mem_leavesL ht hv), rfl, ?_⟩
          exact ⟨_, rfl, rfl, sub_refl _⟩
        · walk_at "sk"
          have eb : (ts.filterMap fun t => some (PyData.bool (t.hK Ps k))) = (ts.map (Tr.hK Ps k)).map PyData.bool := by rw [fm_some, List.map_map]; rfl
          first
          | refine oc_all (bs := ts.map (Tr.hK Ps k)) (by rw [← eb]; exact List.mem_cons_self ..) ⟨_, sub_cons (sub_refl _), q⟩
          | refine oc_any (bs := ts.map (Tr.hK Ps k)) (by rw [← eb]; exact List.mem_cons_self ..) ⟨_, sub_cons (sub_refl _), q⟩

def w_signs_at : WT := fun ks O Φ => ∃ (Ps : List V3) (v : V3), ks = [.dat (.tuple (Ps.map V3.d)), .dat v.d] ∧ (∀ p ∈ Ps, p.Sm) ∧ Ps.length < 100000 ∧ O = [] ∧ Φ (.dat (tupI (sg Ps v))) []
theorem cl_signs_at (T : Bt mg) (F : Df K mg "signs_at" s_signs_at f fd) (C_sign : Cl P w K mg base "sign" 1 1 w_sign) (C_dot : Cl P w K mg base "dot" 1 2 w_dot) : Cl P w K mg base "signs_at" 2 2 w_signs_at := by
  have nd := sc_signs_at.nd
  refine cl_of 1 2 F sc_signs_at rfl (fun _ _ _ _ _ _ us hl => match us, hl with | [_, _], _ => rfl) fun cdv A outer s H E hr => ⟨_, (pss_one (ps_ret (pe_callTy (kTupleOf (K := K)) (by rfl) T.tuple_ (by decide +kernel) (pa_cons (pe_lc (own := [("plane", 2)]) (g := gName 2) (by rfl) nd (kTup (K := K) (pv 0)) (blkOk_by (own := [("plane", 2)]) (N := N_signs_at) (sc := defScope s_signs_at) (by decide +kernel)) (fun _ _ _ _ _ => (pg_name (i := 2) nd rfl (Or.inl rfl))) (fun _ _ _ _ _ => pts_nil) (fun _ _ _ _ _ => (pe_cl C_sign (hr.mono (by decide)) (by rfl) (pa_cons (pe_cl C_dot (hr.mono (by decide)) (by rfl) (pa_cons (pv 2) (pa_cons (pv 1) pa_nil))) pa_nil)))) pa_nil)))), ?_⟩
  intro B ks O Φ hl ⟨Ps, v, e1, hs, hz, e2, q⟩
  subst e1 e2
  walk_at "sk"
  refine ev_lcF (ei_tup ?_) (own_name (by decide))
  walk_at "sk"
  refine ⟨V3, Ps, fun p => .dat p.d, fun p => some (.int (p.dot v).sign), by rw [List.map_map]; rfl, hz, (fun q hq => nomatch hq), fun p hp => ?_, fun r => ?_⟩
  · refine tg_name (et_yes ⟨fun _ => ?_, fun e => nomatch e⟩)
    walk_at "sk"
    refine ⟨rfl, callK0 ⟨p, v, rfl, .inl (hs p hp), rfl, ?_⟩⟩
    walk_at "sk"
    refine ⟨rfl, callK0 ⟨_, rfl, rfl, ?_⟩⟩
    exact ⟨_, rfl, rfl, sub_refl _⟩
  · walk_at "sk"
    refine oc_tuple (.lst (List.mem_cons_self ..)) ?_ ⟨_, sub_nil _, ?_⟩
    · rw [fm_some, List.length_map]; omega
    · rw [fm_some]
      unfold tupI sg at q
      rw [List.map_map] at q
      exact q
end
end Sk


/-! Lo4: lots made and asked -/
namespace Sk
open PySem PySem.Spec PyProof.Rows L2
local macro_rules | `(tactic| walk_at "sk") => `(tactic| repeat' (first
  | ((with_reducible show Ev _ (tVar _) _ _ _); refine ev_var rfl ?_) | with_reducible refine ev_int ?_ | with_reducible refine ev_bl ?_ | with_reducible refine ev_non ?_ | with_reducible refine ev_str ?_ | with_reducible refine ev_ty ?_ | with_reducible refine ev_ref ?_
  | with_reducible refine ev_op ?_ | with_reducible refine ev_un ?_ | with_reducible refine ev_cb ?_ | with_reducible refine ea_cons ?_ | with_reducible refine ea_nil ?_
  | with_reducible refine ev_if ?_ | with_reducible refine ev_and ?_ | with_reducible refine ev_or ?_ | with_reducible refine ev_not ?_ | with_reducible refine ev_tup ?_ | with_reducible refine ev_call ?_
  | with_reducible refine sx_seq ?_ | with_reducible refine sx_asg ?_ | with_reducible refine tg_name ?_ | with_reducible refine sx_ret ?_ | with_reducible refine sx_next ?_ | with_reducible refine sx_drop ?_ | with_reducible refine sx_if ?_
  | with_reducible refine et_chain ?_ | with_reducible refine et_test ?_ | with_reducible refine et_B ?_ | with_reducible refine et_not ?_ | with_reducible refine et_and ?_ | with_reducible refine et_or ?_
  | with_reducible refine o_add ?_ | with_reducible refine o_sub ?_ | with_reducible refine o_lt ?_ | with_reducible refine o_le ?_ | with_reducible refine o_gt ?_ | with_reducible refine o_ge ?_
  | with_reducible refine o_neg ?_ | with_reducible refine o_subB ?_ | with_reducible refine o_mul ?_ ?_
  | ((with_reducible show Op2 _ (rIx _) _ _ _ _); refine o_ix (.tup _) rfl ?_)
  | ((with_reducible show Op2 _ (rEqD _) _ _ _ _); (first | refine o_eqD (.dat _) (.dat _) rfl rfl ?_ | refine o_eqD (.dat _) (.dat _) (by decide +kernel) (by decide +kernel) ?_))
  | ((with_reducible show Op2 _ (rNeD _) _ _ _ _); (first | refine o_neD (.dat _) (.dat _) rfl rfl ?_ | refine o_neD (.dat _) (.dat _) (by decide +kernel) (by decide +kernel) ?_))
  | ((with_reducible show Op2 _ (rIn _ false) _ _ _ _); refine o_in (.tup _) (by rfl) (by rfl) ?_) | ((with_reducible show Op2 _ (rIn _ true) _ _ _ _); refine o_notIn (.tup _) (by rfl) (by rfl) ?_)
  | ((with_reducible show OpC _ (rIsi _) _ _ _); (first | refine oc_isi (b := true) (by rfl) ?_ | refine oc_isi (b := false) (by rfl) ?_))
  | ((with_reducible show OpC _ _ _ _ _); refine oc_len (.tup _) ?_)
  | ((with_reducible show Tg _ (gTup _ _ _) _ _ _ _); (first | with_reducible refine tg_pair ?_ | refine tg_tup rfl ?_)) | ((with_reducible show Tgs _ (gCons _ _) _ _ _ _); refine tgs_cons ?_) | ((with_reducible show Tgs _ gNil _ _ _ _); refine tgs_nil ?_)
  | ((with_reducible show ∃ ds, alld _ ds ∧ _); (first
    | refine ⟨[_, _, _], ⟨rfl, rfl, rfl, trivial⟩, Nat.le_of_ble_eq_true rfl, ?_⟩ | refine ⟨[_, _], ⟨rfl, rfl, trivial⟩, Nat.le_of_ble_eq_true rfl, ?_⟩ | refine ⟨[_], ⟨rfl, trivial⟩, Nat.le_of_ble_eq_true rfl, ?_⟩ | refine ⟨[], trivial, Nat.le_of_ble_eq_true rfl, ?_⟩
    | refine ⟨[_, _, _, _], ⟨rfl, rfl, rfl, rfl, trivial⟩, Nat.le_of_ble_eq_true rfl, ?_⟩ | refine ⟨[_, _, _, _, _], ⟨rfl, rfl, rfl, rfl, rfl, trivial⟩, Nat.le_of_ble_eq_true rfl, ?_⟩ | refine ⟨[_, _, _, _, _, _], ⟨rfl, rfl, rfl, rfl, rfl, rfl, trivial⟩, Nat.le_of_ble_eq_true rfl, ?_⟩
    | refine ⟨[_, _, _, _, _, _, _], ⟨rfl, rfl, rfl, rfl, rfl, rfl, rfl, trivial⟩, Nat.le_of_ble_eq_true rfl, ?_⟩))
  | ((with_reducible show (_ = true → _) ∧ (_ = false → _)); (first | refine pickT rfl ?_ | refine pickF rfl ?_))
  | ((with_reducible show ∃ _, Kn.dat (PyData.bool _) = Kn.dat (PyData.bool _) ∧ _); refine ⟨_, rfl, ?_⟩)
  | ((with_reducible show ∃ _, Kn.dat _ = Kn.dat _ ∧ _); refine ⟨_, rfl, ?_⟩) | fail))

section
variable {P : Program} {w : World} {K : PySem.W.Frag} {mg : Str → Option Value} {base : Heap} {f : Addr} {fd : FuncData} {C : Addr}

def w_check_many : WT := fun ks O Φ => ∃ ds : List PyData, ks = [.dat (.tuple ds)] ∧ ds.length ≤ 10 ∧ O = [] ∧ Φ (.dat .none) []
theorem cl_check_many (T : Bt mg) (F : Df K mg "check_many" s_check_many f fd) : Cl P w K mg base "check_many" 1 1 w_check_many := by
  have nd := sc_check_many.nd
  refine cl_of 0 1 F sc_check_many rfl (fun _ _ _ _ _ _ us hl => match us, hl with | [_], _ => rfl) fun cdv A outer s H E hr => ⟨_, (pss_one (ps_if (pt_cmpR op_gt (pe_callB (kLen (K := K)) (by rfl) T.len_ (by decide +kernel) (pa_cons (pv 0) pa_nil)) (pe_cst (by rfl) T.planes) (nomark _)) (pss_one ps_never) pss_nil)), ?_⟩
  intro B ks O Φ hl ⟨ds, e1, h10, e2, q⟩
  subst e1 e2
  walk_at "sk"
  refine pickF (decide_eq_false (by omega)) ?_
  walk_at "sk"
  exact ⟨_, sub_nil _, q⟩

def w_check_lot (C : Addr) : WT := fun ks O Φ => ∃ (p : Addr) (fs : List (Str × PyData)), ks = [.ptr p] ∧ O = [(p, .ins C fs)] ∧ Φ (.dat .none) O
theorem cl_check_lot (T : Bt mg) (L : LotC P w K mg C) (F : Df K mg "check_lot" s_check_lot f fd) : Cl P w K mg base "check_lot" 1 1 (w_check_lot C) := by
  have nd := sc_check_lot.nd
  refine cl_of 0 1 F sc_check_lot rfl (fun _ _ _ _ _ _ us hl => match us, hl with | [_], _ => rfl) fun cdv A outer s H E hr => ⟨_, (pss_one (ps_if (pt_not (pt_val (pe_callB (kIsi (K := K)) (by rfl) T.isinstance_ (by decide +kernel) (pa_cons (pv 0) (pa_cons (pe_glob (v := .ref C) (by rfl) L.at_ rfl) pa_nil))))) (pss_one ps_never) pss_nil)), ?_⟩
  intro B ks O Φ hl ⟨p, fs, e1, e2, q⟩
  subst e1 e2
  walk_at "sk"
  refine oc_isC L.is (List.mem_cons_self ..) ?_
  walk_at "sk"
  exact ⟨_, sub_refl _, q⟩

/-- a lot's fields -/
def lotF (t : Tr) : List (Str × PyData) := [("tree", t.red.d), ("planes", .tuple (t.plV.map V3.d))]
def w_init (C : Addr) : WT := fun ks O Φ => ∃ (t : Tr) (x : Addr), ks = [.ptr x, .dat t.d] ∧ TOk 6 t ∧ t.plV.length ≤ 10 ∧ O = [(x, .ins C [])] ∧ Φ (.dat .none) [(x, .ins C (lotF t))]
theorem TOk.mono {m n : Nat} {t : Tr} (h : TOk m t) (l : m ≤ n) : TOk n t := ⟨h.fit, Nat.le_trans h.dep l, h.few⟩
theorem mk_lot {oc : Addr} (T : Bt mg) (L : LotC P w K mg C) (M : Mk K C f) (F : Fun K "__init__" "Lot.__init__" s_LotInit f fd) (C_is_tree : Cl P w K mg base "is_tree" 12 2 (w_is_tree 8)) (C_leaf_planes : Cl P w K mg base "leaf_planes" 10 1 (w_leaf_planes 8))
    (C_check_many : Cl P w K mg base "check_many" 1 1 w_check_many) (C_planes_of_tree : Cl P w K mg base "planes_of_tree" 11 1 w_planes_of_tree) (C_with_reduced : Cl P w K mg base "with_reduced" 11 1 (w_with_reduced 8)) : MkL P w K mg base C 13 (w_init C) := by
  have nd := sc_LotInit.nd
  refine ⟨f, fd, ["self", "tree"], M, L.at_, fn_sk 2 F sc_LotInit rfl fun cdv A outer s H E hr => ⟨_, (pss_cons (ps_if (PW.pt (pw_or (pt_not (pt_val (pe_cl C_is_tree (hr.mono (by decide)) (by rfl) (pa_cons (pv 1) (pa_cons (pe_cst (by rfl) T.deep) pa_nil))))) (pw_or1 (pt_cmpR op_gt (pe_callB (kLen (K := K)) (by rfl) T.len_ (by decide +kernel) (pa_cons (pe_cl C_leaf_planes (hr.mono (by decide)) (by rfl) (pa_cons (pv 1) pa_nil)) pa_nil)) (pe_cst (by rfl) T.leaves) (nomark _))))) (pss_one ps_never) pss_nil)
      (pss_cons (ps_expr (pe_cl C_check_many (hr.mono (by decide)) (by rfl) (pa_cons (pe_cl C_planes_of_tree (hr.mono (by decide)) (by rfl) (pa_cons (pv 1) pa_nil)) pa_nil)))
      (pss_cons (ksFld (K := K) (pv 0) (pe_cl C_with_reduced (hr.mono (by decide)) (by rfl) (pa_cons (pv 1) pa_nil)) rfl)
      (pss_one (ksFld (K := K) (pv 0) (pe_cl C_planes_of_tree (hr.mono (by decide)) (by rfl) (pa_cons (pv 1) pa_nil)) rfl))))), ?_⟩, F.binds (fun _ _ _ _ _ _ us hl => match us, hl with | [_, _], _ => rfl)⟩
  intro B ks O Φ hl ⟨t, x, e1, ht, h10, e2, q⟩
  subst e1 e2
  have ht8 := ht.mono (n := 8) (by decide)
  walk_at "sk"
  refine ⟨rfl, callK0 ⟨t, 6, rfl, ht.fit, ht8.dep, by decide, by have := ht.dep; omega, rfl, ?_⟩⟩
  walk_at "sk"
  refine ⟨rfl, callK0 ⟨t, rfl, ht8.dep, ht.few, rfl, fun p => ?_⟩⟩
  walk_at "sk"
  refine oc_len (.lst (List.mem_cons_self ..)) ?_
  walk_at "sk"
  refine pickF (decide_eq_false (by rw [List.length_map]; have := ht.few; omega)) ?_
  walk_at "sk"
  refine ⟨rfl, callK0 ⟨t, rfl, ht8, rfl, ?_⟩⟩
  walk_at "sk"
  refine ⟨rfl, callK0 ⟨_, rfl, by rw [List.length_map]; exact h10, rfl, ?_⟩⟩
  walk_at "sk"
  refine sx_fld L.is.cl L.tree ?_
  walk_at "sk"
  refine ⟨rfl, callK0 ⟨t, rfl, ht8.dep, ht.fit, rfl, ?_⟩⟩
  walk_at "sk"
  refine ⟨x, [], 1, rfl, rfl, by decide, ?_⟩
  walk_at "sk"
  refine sx_fld L.is.cl L.planes ?_
  walk_at "sk"
  refine ⟨rfl, callK0 ⟨t, rfl, ht8, rfl, ?_⟩⟩
  walk_at "sk"
  refine ⟨x, [("tree", t.red.d)], 1, rfl, rfl, (by show 1 < 1000; decide), ?_⟩
  exact ⟨[(x, .ins C (lotF t))], sub_cons (sub_refl _), q⟩

theorem plV_all : Tr.all.plV = [] := List.eq_nil_iff_forall_not_mem.mpr fun p hp => by
  obtain ⟨v, hv, _⟩ := Tr.mem_plV.mp hp
  simp [Tr.leaves] at hv
def w_lot_with (C : Addr) : WT := fun ks O Φ => ∃ t : Tr, ks = [.dat t.d] ∧ TOk 8 t ∧ O = [] ∧ ∀ p, Φ (.ptr p) [(p, .ins C (lotF t))]
theorem cl_lot_with (T : Bt mg) (L : LotC P w K mg C) (F : Df K mg "lot_with" s_lot_with f fd) (M_Lot : MkL P w K mg base C 13 (w_init C)) (C_planes_of_tree : Cl P w K mg base "planes_of_tree" 11 1 w_planes_of_tree)
    (C_with_reduced : Cl P w K mg base "with_reduced" 11 1 (w_with_reduced 8)) : Cl P w K mg base "lot_with" 15 1 (w_lot_with C) := by
  have nd := sc_lot_with.nd
  refine cl_of 14 1 F sc_lot_with rfl (fun _ _ _ _ _ _ us hl => match us, hl with | [_], _ => rfl) fun cdv A outer s H E hr => ⟨_, (pss_cons (ps_set (i := 1) nd rfl (Or.inl rfl) (pe_mkLot M_Lot (hr.mono (by decide)) (by rfl) (pa_cons (pe_tup (pa_cons pe_str pa_nil)) pa_nil)))
      (pss_cons (ksFld (K := K) (pv 1) (pe_cl C_with_reduced (hr.mono (by decide)) (by rfl) (pa_cons (pv 0) pa_nil)) rfl)
      (pss_cons (ksFld (K := K) (pv 1) (pe_cl C_planes_of_tree (hr.mono (by decide)) (by rfl) (pa_cons (pv 0) pa_nil)) rfl)
      (pss_one (ps_ret (pv 1)))))), ?_⟩
  intro B ks O Φ hl ⟨t, e1, ht, e2, q⟩
  subst e1 e2
  walk_at "sk"
  refine ev_make ?_
  walk_at "sk"
  refine ⟨rfl, fun x => ⟨[(x, .ins C [])], [], .refl _, .all, x, rfl, ⟨trivial, by decide, by decide⟩, by rw [plV_all]; decide, rfl, rfl, ?_⟩⟩
  walk_at "sk"
  refine sx_fld L.is.cl L.tree ?_
  walk_at "sk"
  refine ⟨rfl, callK0 ⟨t, rfl, ht.dep, ht.fit, rfl, ?_⟩⟩
  walk_at "sk"
  refine ⟨x, _, 0, rfl, rfl, (by show 2 < 1000; decide), ?_⟩
  walk_at "sk"
  refine sx_fld L.is.cl L.planes ?_
  walk_at "sk"
  refine ⟨rfl, callK0 ⟨t, rfl, ht, rfl, ?_⟩⟩
  walk_at "sk"
  refine ⟨x, _, 0, rfl, rfl, (by show 2 < 1000; decide), ?_⟩
  walk_at "sk"
  exact ⟨_, sub_refl _, q x⟩

def w_has_signs (C : Addr) : WT := fun ks O Φ => ∃ (t : Tr) (k : Rw) (p : Addr), ks = [.ptr p, .dat (.tuple (t.plV.map V3.d)), .dat (tupI k)] ∧ TOk 8 t ∧ t.plV.length = k.length ∧ O = [(p, .ins C (lotF t))] ∧ Φ (.dat (.bool (t.hK t.plV k))) O
theorem cl_has_signs (T : Bt mg) (L : LotC P w K mg C) (F : Df K mg "has_signs" s_has_signs f fd) (C_tree_holds : Cl P w K mg base "tree_holds" 12 2 (w_tree_holds 8)) : Cl P w K mg base "has_signs" 13 3 (w_has_signs C) := by
  have nd := sc_has_signs.nd
  refine cl_of 12 3 F sc_has_signs rfl (fun _ _ _ _ _ _ us hl => match us, hl with | [_, _, _], _ => rfl) fun cdv A outer s H E hr => ⟨_, (pss_one (ps_ret (pe_cl C_tree_holds (hr.mono (by decide)) (by rfl) (pa_cons (kFld (K := K) (pv 0) rfl) (pa_cons (kDictZip (K := K) hr.units rfl (by rfl) T.dict_ (by rfl) T.zip_ (pa_cons (pv 1) (pa_cons (pv 2) pa_nil))) pa_nil))))), ?_⟩
  intro B ks O Φ hl ⟨t, k, p, e1, ht, hk, e2, q⟩
  subst e1 e2
  have rf := Tr.red_facts ht.fit
  walk_at "sk"
  refine ev_fld L.is.cl L.tree ?_
  walk_at "sk"
  refine ⟨p, lotF t, _, rfl, List.mem_cons_self .., rfl, ?_⟩
  walk_at "sk"
  refine ev_dictZip ?_
  walk_at "sk"
  refine ⟨t.plT, k.map PyData.int, by rw [tup_plV]; rfl, by rw [← t.plV_l, List.length_map, List.length_map]; exact hk, t.plT_nodup, fun r => ?_⟩
  walk_at "sk"
  have ez : t.plT.zip (k.map PyData.int) = zipK t.plV k := by unfold zipK; rw [t.plV_l]
  rw [ez]
  refine ⟨rfl, [(r, .dic (zipK t.plV k))], [(p, .ins C (lotF t))], .refl _, t.red, t.plV, k, r, rfl, rf.1, by rw [rf.2.1]; exact ht.dep, hk, fun v hv => ?_, rfl, ?_⟩
  · rw [rf.2.2.1] at hv
    obtain ⟨u, hu, rfl⟩ := List.mem_map.mp hv
    rw [fst_low (Tr.fit_leaves ht.fit u hu).1]
    exact Tr.mem_plV.mpr ⟨u, hu, rfl⟩
  · rw [Tr.red_red_hK ht.fit]
    exact ⟨_, sub_cons (sub_refl _), q⟩

def w_rest (C : Addr) : WT := fun ks O Φ => ∃ (t : Tr) (p : Addr), ks = [.ptr p] ∧ TOk 6 t ∧ O = [(p, .ins C (lotF t))] ∧ ∀ r, Φ (.ptr r) [(r, .ins C (lotF (.not t.red))), (p, .ins C (lotF t))]
theorem TOk.not {n : Nat} {t : Tr} (h : TOk n t) : TOk (n + 1) (.not t.red) := by
  have rf := Tr.red_facts h.fit
  refine ⟨by rw [Tr.fit]; exact rf.1, by rw [Tr.dep, rf.2.1]; have := h.dep; omega, by rw [Tr.leaves, rf.2.2.1, List.length_map]; exact h.few⟩
theorem cl_rest (T : Bt mg) (L : LotC P w K mg C) (F : Df K mg "rest" s_rest f fd) (C_check_lot : Cl P w K mg base "check_lot" 1 1 (w_check_lot C)) (C_lot_with : Cl P w K mg base "lot_with" 15 1 (w_lot_with C)) : Cl P w K mg base "rest" 16 1 (w_rest C) := by
  have nd := sc_rest.nd
  refine cl_of 15 1 F sc_rest rfl (fun _ _ _ _ _ _ us hl => match us, hl with | [_], _ => rfl) fun cdv A outer s H E hr => ⟨_, (pss_cons (ps_expr (pe_cl C_check_lot (hr.mono (by decide)) (by rfl) (pa_cons (pv 0) pa_nil)))
      (pss_one (ps_ret (pe_cl C_lot_with (hr.mono (by decide)) (by rfl) (pa_cons (pe_tup (pa_cons pe_str (pa_cons (kFld (K := K) (pv 0) rfl) pa_nil))) pa_nil))))), ?_⟩
  intro B ks O Φ hl ⟨t, p, e1, ht, e2, q⟩
  subst e1 e2
  walk_at "sk"
  refine ⟨rfl, _, [], .refl _, p, lotF t, rfl, rfl, ?_⟩
  walk_at "sk"
  refine ev_fld L.is.cl L.tree ?_
  walk_at "sk"
  refine ⟨p, lotF t, _, rfl, List.mem_cons_self .., rfl, ?_⟩
  walk_at "sk"
  refine ⟨rfl, callK0 ⟨.not t.red, rfl, (ht.not).mono (by decide), rfl, fun r => ?_⟩⟩
  exact ⟨_, sub_refl _, q r⟩
end
end Sk


/-! Ce1: near, corner rays, level ray -/
namespace Sk
open PySem PySem.Spec PyProof.Rows L2
local macro_rules | `(tactic| walk_at "sk") => `(tactic| repeat' (first
  | ((with_reducible show Ev _ (tVar _) _ _ _); refine ev_var rfl ?_) | with_reducible refine ev_int ?_ | with_reducible refine ev_bl ?_ | with_reducible refine ev_non ?_ | with_reducible refine ev_str ?_ | with_reducible refine ev_ty ?_ | with_reducible refine ev_ref ?_
  | with_reducible refine ev_op ?_ | with_reducible refine ev_un ?_ | with_reducible refine ev_cb ?_ | with_reducible refine ea_cons ?_ | with_reducible refine ea_nil ?_
  | with_reducible refine ev_if ?_ | with_reducible refine ev_and ?_ | with_reducible refine ev_or ?_ | with_reducible refine ev_not ?_ | with_reducible refine ev_tup ?_ | with_reducible refine ev_call ?_
  | with_reducible refine sx_seq ?_ | with_reducible refine sx_asg ?_ | with_reducible refine tg_name ?_ | with_reducible refine sx_ret ?_ | with_reducible refine sx_next ?_ | with_reducible refine sx_drop ?_ | with_reducible refine sx_if ?_
  | with_reducible refine et_chain ?_ | with_reducible refine et_test ?_ | with_reducible refine et_B ?_ | with_reducible refine et_not ?_ | with_reducible refine et_and ?_ | with_reducible refine et_or ?_
  | with_reducible refine o_add ?_ | with_reducible refine o_sub ?_ | with_reducible refine o_lt ?_ | with_reducible refine o_le ?_ | with_reducible refine o_gt ?_ | with_reducible refine o_ge ?_
  | with_reducible refine o_neg ?_ | with_reducible refine o_subB ?_ | with_reducible refine o_mul ?_ ?_
  | ((with_reducible show Op2 _ (rIx _) _ _ _ _); refine o_ix (.tup _) rfl ?_)
  | ((with_reducible show Op2 _ (rEqD _) _ _ _ _); (first | refine o_eqD (.dat _) (.dat _) rfl rfl ?_ | refine o_eqD (.dat _) (.dat _) (by decide +kernel) (by decide +kernel) ?_))
  | ((with_reducible show Op2 _ (rNeD _) _ _ _ _); (first | refine o_neD (.dat _) (.dat _) rfl rfl ?_ | refine o_neD (.dat _) (.dat _) (by decide +kernel) (by decide +kernel) ?_))
  | ((with_reducible show Op2 _ (rIn _ false) _ _ _ _); refine o_in (.tup _) (by rfl) (by rfl) ?_) | ((with_reducible show Op2 _ (rIn _ true) _ _ _ _); refine o_notIn (.tup _) (by rfl) (by rfl) ?_)
  | ((with_reducible show OpC _ (rIsi _) _ _ _); (first | refine oc_isi (b := true) (by rfl) ?_ | refine oc_isi (b := false) (by rfl) ?_))
  | ((with_reducible show OpC _ _ _ _ _); refine oc_len (.tup _) ?_)
  | ((with_reducible show Tg _ (gTup _ _ _) _ _ _ _); (first | with_reducible refine tg_pair ?_ | refine tg_tup rfl ?_)) | ((with_reducible show Tgs _ (gCons _ _) _ _ _ _); refine tgs_cons ?_) | ((with_reducible show Tgs _ gNil _ _ _ _); refine tgs_nil ?_)
  | ((with_reducible show ∃ ds, alld _ ds ∧ _); (first
    | refine ⟨[_, _, _], ⟨rfl, rfl, rfl, trivial⟩, Nat.le_of_ble_eq_true rfl, ?_⟩ | refine ⟨[_, _], ⟨rfl, rfl, trivial⟩, Nat.le_of_ble_eq_true rfl, ?_⟩ | refine ⟨[_], ⟨rfl, trivial⟩, Nat.le_of_ble_eq_true rfl, ?_⟩ | refine ⟨[], trivial, Nat.le_of_ble_eq_true rfl, ?_⟩
    | refine ⟨[_, _, _, _], ⟨rfl, rfl, rfl, rfl, trivial⟩, Nat.le_of_ble_eq_true rfl, ?_⟩ | refine ⟨[_, _, _, _, _], ⟨rfl, rfl, rfl, rfl, rfl, trivial⟩, Nat.le_of_ble_eq_true rfl, ?_⟩ | refine ⟨[_, _, _, _, _, _], ⟨rfl, rfl, rfl, rfl, rfl, rfl, trivial⟩, Nat.le_of_ble_eq_true rfl, ?_⟩
    | refine ⟨[_, _, _, _, _, _, _], ⟨rfl, rfl, rfl, rfl, rfl, rfl, rfl, trivial⟩, Nat.le_of_ble_eq_true rfl, ?_⟩))
  | ((with_reducible show (_ = true → _) ∧ (_ = false → _)); (first | refine pickT rfl ?_ | refine pickF rfl ?_))
  | ((with_reducible show ∃ _, Kn.dat (PyData.bool _) = Kn.dat (PyData.bool _) ∧ _); refine ⟨_, rfl, ?_⟩)
  | ((with_reducible show ∃ _, Kn.dat _ = Kn.dat _ ∧ _); refine ⟨_, rfl, ?_⟩) | fail))

section
variable {P : Program} {w : World} {K : PySem.W.Frag} {mg : Str → Option Value} {base : Heap} {f : Addr} {fd : FuncData} {C : Addr}

def w_added : WT := fun ks O Φ => ∃ (v u : V3) (t : Int), ks = [.dat v.d, .dat u.d, .dat (.int t)] ∧ t.natAbs < 2 ^ 64 ∧ O = [] ∧ Φ (.dat (V3.add (V3.sc t v) u).d) []
theorem cl_added (F : Df K mg "added" s_added f fd) : Cl P w K mg base "added" 1 3 w_added := by
  have nd := sc_added.nd
  refine cl_of 0 3 F sc_added rfl (fun _ _ _ _ _ _ us hl => match us, hl with | [_, _, _], _ => rfl) fun cdv A outer s H E hr => ⟨_, (pss_one (ps_ret (pe_tup (pa_cons (pe_op op_add (pe_op op_mul (pv 2) (pe_ix (kIx (K := K)) (pv 0) pe_int (fun _ _ => rfl))) (pe_ix (kIx (K := K)) (pv 1) pe_int (fun _ _ => rfl))) (pa_cons (pe_op op_add (pe_op op_mul (pv 2) (pe_ix (kIx (K := K)) (pv 0) pe_int (fun _ _ => rfl))) (pe_ix (kIx (K := K)) (pv 1) pe_int (fun _ _ => rfl))) (pa_cons (pe_op op_add (pe_op op_mul (pv 2) (pe_ix (kIx (K := K)) (pv 0) pe_int (fun _ _ => rfl))) (pe_ix (kIx (K := K)) (pv 1) pe_int (fun _ _ => rfl))) pa_nil)))))), ?_⟩
  intro B ks O Φ hl ⟨v, u, t, e1, ht, e2, q⟩
  subst e1 e2
  have hs : -(2 ^ 64) < t ∧ t < 2 ^ 64 := by omega
  walk_at "sk"
  · exact .inl hs
  · exact .inl hs
  · exact .inl hs
  · exact ⟨_, sub_nil _, q⟩

theorem ab_eq (n : Int) : ab n = (n.natAbs : Int) := by unfold ab; split <;> omega
def w_near : WT := fun ks O Φ => ∃ (Ps : List V3) (v s : V3) (a b : Nat), ks = [.dat (.tuple (Ps.map V3.d)), .dat v.d, .dat s.d] ∧ Pl Ps ∧ Ps ≠ [] ∧ v.nz ∧ v.dot s = 0 ∧ v.Bd a ∧ s.Bd b ∧ b ≤ 48 ∧ a ≤ 100 ∧ O = [] ∧ ∀ r : V3, Near Ps v s r → r.Bd (b + a + 16) → Φ (.dat r.d) []
theorem cl_near (T : Bt mg) (F : Df K mg "near" s_near f fd) (C_dot : Cl P w K mg base "dot" 1 2 w_dot) (C_added : Cl P w K mg base "added" 1 3 w_added) (C_lowest : Cl P w K mg base "lowest" 2 1 w_lowest) : Cl P w K mg base "near" 3 3 w_near := by
  have nd := sc_near.nd
  refine cl_of 2 3 F sc_near rfl (fun _ _ _ _ _ _ us hl => match us, hl with | [_, _, _], _ => rfl) fun cdv A outer s H E hr => ⟨_, (pss_cons (ps_set (i := 3) nd rfl (Or.inl rfl) (pe_op op_add pe_int (pe_callB (kMax (K := K) rfl) (by rfl) T.max_ (by decide +kernel) (pa_cons (pe_lc (own := [("plane", 4)]) (g := gName 4) (by rfl) nd (kTup (K := K) (pv 0)) (blkOk_by (own := [("plane", 4)]) (N := N_near) (sc := defScope s_near) (by decide +kernel)) (fun _ _ _ _ _ => (pg_name (i := 4) nd rfl (Or.inl rfl))) (fun _ _ _ _ _ => pts_nil) (fun _ _ _ _ _ => (pe_callB call_abs (by rfl) T.abs_ (by decide +kernel) (pa_cons (pe_cl C_dot (hr.mono (by decide)) (by rfl) (pa_cons (pv 4) (pa_cons (pv 2) pa_nil))) pa_nil)))) pa_nil))))
      (pss_one (ps_ret (pe_cl C_lowest (hr.mono (by decide)) (by rfl) (pa_cons (pe_cl C_added (hr.mono (by decide)) (by rfl) (pa_cons (pv 1) (pa_cons (pv 2) (pa_cons (pv 3) pa_nil)))) pa_nil))))), ?_⟩
  intro B ks O Φ hl ⟨Ps, v, s, a, b, e1, hP, hne, hv, h0, ha, hb, hb48, ha100, e2, q⟩
  subst e1 e2
  have hl5 := hP.le
  walk_at "sk"
  refine ev_lcF (ei_tup ?_) (own_name (by decide))
  walk_at "sk"
  refine ⟨V3, Ps, fun p => .dat p.d, fun p => some (.int (ab (p.dot s))), by rw [List.map_map]; rfl, by omega, (fun q hq => nomatch hq), fun p hp => ?_, fun r => ?_⟩
  · refine tg_name (et_yes ⟨fun _ => ?_, fun e => nomatch e⟩)
    walk_at "sk"
    refine ⟨rfl, callK0 ⟨p, s, rfl, .inl ((hP.bd p hp).sm (by decide)), rfl, ?_⟩⟩
    walk_at "sk"
    refine oc_abs ?_
    exact ⟨_, rfl, rfl, sub_refl _⟩
  · walk_at "sk"
    have eb : (Ps.filterMap fun p => some (PyData.int (ab (p.dot s)))) = (Ps.map fun p => ab (p.dot s)).map PyData.int := by rw [fm_some, List.map_map]; rfl
    refine oc_max (ns := Ps.map fun p => ab (p.dot s)) (by rw [← eb]; exact List.mem_cons_self ..) (by rw [List.length_map]; exact List.length_pos_iff.mpr hne) fun m hm hmax => ?_
    obtain ⟨p0, hp0, em⟩ := List.mem_map.mp hm
    have hmb : m.natAbs < 2 ^ (12 + b + 2) := by
      rw [← em, ab_eq, Int.natAbs_natCast]
      exact (hP.bd p0 hp0).dot hb
    have hm0 : 0 ≤ m := by rw [← em, ab_eq]; omega
    have hall : ∀ p ∈ Ps, ab (p.dot s) < 1 + m := fun p hp => by
      have := hmax _ (List.mem_map.mpr ⟨p, hp, rfl⟩)
      omega
    have ht : (1 + m).natAbs < 2 ^ (b + 15) := by
      have e : 2 ^ (b + 15) = 2 ^ (12 + b + 2) + 2 ^ (12 + b + 2) := by rw [show b + 15 = (12 + b + 2) + 1 by omega, Nat.pow_succ]; omega
      have : 0 < 2 ^ (12 + b + 2) := Nat.pow_pos (by decide)
      omega
    have hn : Near Ps v s (V3.add (V3.sc (1 + m) v) s).low := ⟨1 + m, by omega, hall, rfl⟩
    have hnz := near_nz (v := v) (s := s) (t := 1 + m) hv h0 (by omega)
    have hbd : (V3.add (V3.sc (1 + m) v) s).Bd (b + a + 16) := (V3.Bd.near ht ha hb (by omega)).mono (by omega)
    walk_at "sk"
    refine ⟨rfl, callK0 ⟨v, s, 1 + m, rfl, Nat.lt_of_lt_of_le ht (Nat.pow_le_pow_right (by decide) (by omega)), rfl, ?_⟩⟩
    walk_at "sk"
    refine ⟨rfl, callK0 ⟨(V3.add (V3.sc (1 + m) v) s).l, rfl, by simp, hbd.gOk (by omega) hnz, rfl, ?_⟩⟩
    exact ⟨_, sub_nil _, q _ hn hbd.low⟩

/-! ### corners -/
structure CI (done : List (V3 × V3)) (cs : Kv) : Prop where
  nd : (keys cs).Nodup
  ks : ∀ k, k ∈ keys cs ↔ ∃ pr ∈ done, k = (pr.1.cross pr.2).low.l ∨ k = (pr.1.cross pr.2).low.neg.l
theorem CI.snoc {done : List (V3 × V3)} {cs : Kv} {p q : V3} {d : PyData} (h : CI done cs) : CI (done ++ [(p, q)]) (put (put cs (p.cross q).low.l d) (p.cross q).low.neg.l d) := by
  refine ⟨nodup_put (nodup_put h.nd), fun k => ?_⟩
  rw [mem_keys_put, mem_keys_put, h.ks]
  simp only [List.mem_append, List.mem_singleton, or_and_right, exists_or, exists_eq_left, or_assoc]
/-- the pairs of planes that have been met -/
def prs (Ps : List V3) : Nat → List (V3 × V3)
  | 0 => []
  | i + 1 => prs Ps i ++ (Ps.drop (i + 1)).map fun q => (Ps.getD i ⟨0, 0, 0⟩, q)
theorem mem_prs {Ps : List V3} {pr : V3 × V3} : ∀ {n : Nat}, n ≤ Ps.length → (pr ∈ prs Ps n ↔ ∃ a b, a < n ∧ a < b ∧ Ps[a]? = some pr.1 ∧ Ps[b]? = some pr.2)
  | 0, _ => by simp [prs]
  | n + 1, hn => by
    rw [prs, List.mem_append, mem_prs (n := n) (by omega), List.mem_map]
    have hg : Ps[n]? = some (Ps.getD n ⟨0, 0, 0⟩) := by
      rw [List.getD_eq_getElem?_getD, List.getElem?_eq_getElem (by omega)]; rfl
    constructor
    · rintro (⟨a, b, h1, h2, h3, h4⟩ | ⟨q, hq, rfl⟩)
      · exact ⟨a, b, by omega, h2, h3, h4⟩
      · obtain ⟨j, hj⟩ := List.mem_iff_getElem?.mp hq
        rw [List.getElem?_drop] at hj
        exact ⟨n, n + 1 + j, by omega, by omega, hg, hj⟩
    · rintro ⟨a, b, h1, h2, h3, h4⟩
      by_cases ha : a < n
      · exact .inl ⟨a, b, ha, h2, h3, h4⟩
      · have ea : a = n := by omega
        subst ea
        refine .inr ⟨pr.2, List.mem_iff_getElem?.mpr ⟨b - (a + 1), ?_⟩, ?_⟩
        · rw [List.getElem?_drop, show a + 1 + (b - (a + 1)) = b by omega]; exact h4
        · rw [h3] at hg
          rw [← Option.some.inj hg]
theorem corners_of {Ps : List V3} {cs : Kv} (hP : Pl Ps) (h : CI (prs Ps Ps.length) cs) : Corners Ps cs := by
  refine ⟨h.nd, fun k => ?_⟩
  rw [h.ks]
  constructor
  · rintro ⟨pr, hm, hk⟩
    obtain ⟨a, b, h1, h2, h3, h4⟩ := (mem_prs (Nat.le_refl _)).mp hm
    have hne : pr.1 ≠ pr.2 := fun e => by
      rw [← e] at h4
      have hb := (List.getElem?_eq_some_iff.mp h4).1
      have := (List.getElem?_inj h1 hP.nd).mp (h3.trans h4.symm)
      omega
    rcases hk with rfl | rfl
    · exact ⟨_, ⟨pr.1, List.mem_of_getElem? h3, pr.2, List.mem_of_getElem? h4, hne, .inl rfl⟩, rfl⟩
    · exact ⟨_, ⟨pr.1, List.mem_of_getElem? h3, pr.2, List.mem_of_getElem? h4, hne, .inr rfl⟩, rfl⟩
  · rintro ⟨v, ⟨p, hp, q, hq, hne, hv⟩, rfl⟩
    obtain ⟨a, ha⟩ := List.mem_iff_getElem?.mp hp
    obtain ⟨b, hb⟩ := List.mem_iff_getElem?.mp hq
    have hla := (List.getElem?_eq_some_iff.mp ha).1
    have hlb := (List.getElem?_eq_some_iff.mp hb).1
    rcases Nat.lt_trichotomy a b with hab | hab | hab
    · refine ⟨(p, q), (mem_prs (Nat.le_refl _)).mpr ⟨a, b, hla, hab, ha, hb⟩, ?_⟩
      rcases hv with rfl | rfl
      · exact .inl rfl
      · exact .inr rfl
    · subst hab
      rw [ha] at hb
      exact absurd (Option.some.inj hb) hne
    · refine ⟨(q, p), (mem_prs (Nat.le_refl _)).mpr ⟨b, a, hlb, hab, hb, ha⟩, ?_⟩
      have hz := V3.cross_nz (hP.nm q hq) (hP.nm p hp) (Ne.symm hne)
      have e : (p.cross q).low = (q.cross p).low.neg := by rw [V3.cross_swap, V3.neg_low hz]
      rcases hv with rfl | rfl
      · rw [e]; exact .inr rfl
      · rw [e, V3.neg_neg]; exact .inl rfl
theorem CI.len {done : List (V3 × V3)} {cs : Kv} (h : CI done cs) (hd : done.length ≤ 100) : cs.length ≤ 200 := by
  have := nodup_le (m := done.flatMap fun pr => [(pr.1.cross pr.2).low.l, (pr.1.cross pr.2).low.neg.l]) h.nd fun k hk => by
    obtain ⟨pr, hm, e⟩ := (h.ks k).mp hk
    exact List.mem_flatMap.mpr ⟨pr, hm, by rcases e with e | e <;> simp [e]⟩
  have e : (done.flatMap fun pr => ([(pr.1.cross pr.2).low.l, (pr.1.cross pr.2).low.neg.l] : List Rw)).length = 2 * done.length := by
    rw [List.length_flatMap]
    have : (List.map (fun pr : V3 × V3 => ([(pr.1.cross pr.2).low.l, (pr.1.cross pr.2).low.neg.l] : List Rw).length) done) = List.replicate done.length 2 := by
      refine List.eq_replicate_iff.mpr ⟨List.length_map .., fun b hb => ?_⟩
      obtain ⟨_, _, rfl⟩ := List.mem_map.mp hb
      rfl
    rw [this, List.sum_replicate_nat]; omega
  unfold keys at this
  rw [List.length_map] at this
  omega
theorem prs_len {Ps : List V3} (h5 : Ps.length ≤ 5) : ∀ {n : Nat}, n ≤ 5 → (prs Ps n).length ≤ 5 * n
  | 0, _ => by simp [prs]
  | n + 1, hn => by
    rw [prs, List.length_append, List.length_map, List.length_drop]
    have := prs_len h5 (n := n) (by omega)
    omega
end
end Sk


/-! Ce2: corner rays, level ray -/
namespace Sk
open PySem PySem.Spec PyProof.Rows L2
local macro_rules | `(tactic| walk_at "sk") => `(tactic| repeat' (first
  | ((with_reducible show Ev _ (tVar _) _ _ _); refine ev_var rfl ?_) | with_reducible refine ev_int ?_ | with_reducible refine ev_bl ?_ | with_reducible refine ev_non ?_ | with_reducible refine ev_str ?_ | with_reducible refine ev_ty ?_ | with_reducible refine ev_ref ?_
  | with_reducible refine ev_op ?_ | with_reducible refine ev_un ?_ | with_reducible refine ev_cb ?_ | with_reducible refine ea_cons ?_ | with_reducible refine ea_nil ?_
  | with_reducible refine ev_if ?_ | with_reducible refine ev_and ?_ | with_reducible refine ev_or ?_ | with_reducible refine ev_not ?_ | with_reducible refine ev_tup ?_ | with_reducible refine ev_call ?_
  | with_reducible refine sx_seq ?_ | with_reducible refine sx_asg ?_ | with_reducible refine tg_name ?_ | with_reducible refine sx_ret ?_ | with_reducible refine sx_next ?_ | with_reducible refine sx_drop ?_ | with_reducible refine sx_if ?_
  | with_reducible refine et_chain ?_ | with_reducible refine et_test ?_ | with_reducible refine et_B ?_ | with_reducible refine et_not ?_ | with_reducible refine et_and ?_ | with_reducible refine et_or ?_
  | with_reducible refine o_add ?_ | with_reducible refine o_sub ?_ | with_reducible refine o_lt ?_ | with_reducible refine o_le ?_ | with_reducible refine o_gt ?_ | with_reducible refine o_ge ?_
  | with_reducible refine o_neg ?_ | with_reducible refine o_subB ?_ | with_reducible refine o_mul ?_ ?_
  | ((with_reducible show Op2 _ (rIx _) _ _ _ _); refine o_ix (.tup _) rfl ?_)
  | ((with_reducible show Op2 _ (rEqD _) _ _ _ _); (first | refine o_eqD (.dat _) (.dat _) rfl rfl ?_ | refine o_eqD (.dat _) (.dat _) (by decide +kernel) (by decide +kernel) ?_))
  | ((with_reducible show Op2 _ (rNeD _) _ _ _ _); (first | refine o_neD (.dat _) (.dat _) rfl rfl ?_ | refine o_neD (.dat _) (.dat _) (by decide +kernel) (by decide +kernel) ?_))
  | ((with_reducible show Op2 _ (rIn _ false) _ _ _ _); refine o_in (.tup _) (by rfl) (by rfl) ?_) | ((with_reducible show Op2 _ (rIn _ true) _ _ _ _); refine o_notIn (.tup _) (by rfl) (by rfl) ?_)
  | ((with_reducible show OpC _ (rIsi _) _ _ _); (first | refine oc_isi (b := true) (by rfl) ?_ | refine oc_isi (b := false) (by rfl) ?_))
  | ((with_reducible show OpC _ _ _ _ _); refine oc_len (.tup _) ?_)
  | ((with_reducible show Tg _ (gTup _ _ _) _ _ _ _); (first | with_reducible refine tg_pair ?_ | refine tg_tup rfl ?_)) | ((with_reducible show Tgs _ (gCons _ _) _ _ _ _); refine tgs_cons ?_) | ((with_reducible show Tgs _ gNil _ _ _ _); refine tgs_nil ?_)
  | ((with_reducible show ∃ ds, alld _ ds ∧ _); (first
    | refine ⟨[_, _, _], ⟨rfl, rfl, rfl, trivial⟩, Nat.le_of_ble_eq_true rfl, ?_⟩ | refine ⟨[_, _], ⟨rfl, rfl, trivial⟩, Nat.le_of_ble_eq_true rfl, ?_⟩ | refine ⟨[_], ⟨rfl, trivial⟩, Nat.le_of_ble_eq_true rfl, ?_⟩ | refine ⟨[], trivial, Nat.le_of_ble_eq_true rfl, ?_⟩
    | refine ⟨[_, _, _, _], ⟨rfl, rfl, rfl, rfl, trivial⟩, Nat.le_of_ble_eq_true rfl, ?_⟩ | refine ⟨[_, _, _, _, _], ⟨rfl, rfl, rfl, rfl, rfl, trivial⟩, Nat.le_of_ble_eq_true rfl, ?_⟩ | refine ⟨[_, _, _, _, _, _], ⟨rfl, rfl, rfl, rfl, rfl, rfl, trivial⟩, Nat.le_of_ble_eq_true rfl, ?_⟩
    | refine ⟨[_, _, _, _, _, _, _], ⟨rfl, rfl, rfl, rfl, rfl, rfl, rfl, trivial⟩, Nat.le_of_ble_eq_true rfl, ?_⟩))
  | ((with_reducible show (_ = true → _) ∧ (_ = false → _)); (first | refine pickT rfl ?_ | refine pickF rfl ?_))
  | ((with_reducible show ∃ _, Kn.dat (PyData.bool _) = Kn.dat (PyData.bool _) ∧ _); refine ⟨_, rfl, ?_⟩)
  | ((with_reducible show ∃ _, Kn.dat _ = Kn.dat _ ∧ _); refine ⟨_, rfl, ?_⟩) | fail))

section
variable {P : Program} {w : World} {K : PySem.W.Frag} {mg : Str → Option Value} {base : Heap} {f : Addr} {fd : FuncData} {C : Addr}

def w_corner_rays : WT := fun ks O Φ => ∃ Ps : List V3, ks = [.dat (.tuple (Ps.map V3.d))] ∧ Pl Ps ∧ O = [] ∧ ∀ p cs, Corners Ps cs → Φ (.ptr p) [(p, .dic cs)]
theorem numD_map {Ps : List V3} {i : Nat} {k : Kn} (h : ((numD (Ps.map V3.d)).map Kn.dat)[i]? = some k) : ∃ p, Ps[i]? = some p ∧ k = .dat (.tuple [.int (i : Int), p.d]) := by
  rw [List.getElem?_map, numD_at, List.getElem?_map] at h
  cases e : Ps[i]? with
  | none => rw [e] at h; cases h
  | some p => rw [e] at h; cases h; exact ⟨p, rfl, rfl⟩
theorem cut_from {Ps : List V3} {i : Nat} (h : i < Ps.length) : cutD (Ps.map V3.d) (some ((i : Int) + 1)) none = (Ps.drop (i + 1)).map V3.d := by
  have e : HT.sIx (Ps.map V3.d).length 0 (some ((i : Int) + 1)) = i + 1 := by
    rw [List.length_map]
    unfold HT.sIx
    simp only [Option.elim]
    first
    | (rw [if_neg (by omega)]; omega)
    | (simp; rw [if_neg (by omega)]; omega)
  have e2 : HT.sIx (Ps.map V3.d).length (Ps.map V3.d).length none = Ps.length := by
    rw [List.length_map]
    unfold HT.sIx
    simp
  unfold cutD
  rw [e, e2, ← List.map_drop, List.take_of_length_le]
  rw [List.length_map, List.length_drop]
  exact Nat.le_refl _
theorem cl_corner_rays (T : Bt mg) (F : Df K mg "corner_rays" s_corner_rays f fd) (C_cross : Cl P w K mg base "cross" 1 2 w_cross) (C_lowest : Cl P w K mg base "lowest" 2 1 w_lowest) (C_negative : Cl P w K mg base "negative" 1 1 w_negative) : Cl P w K mg base "corner_rays" 4 1 w_corner_rays := by
  have nd := sc_corner_rays.nd
  refine cl_of 3 1 F sc_corner_rays rfl (fun _ _ _ _ _ _ us hl => match us, hl with | [_], _ => rfl) fun cdv A outer s H E hr => ⟨_, (pss_cons (ps_set (i := 1) nd rfl (Or.inl rfl) pe_dnewT)
      (pss_cons (ps_for PassesOwn.never rfl (kEnum (K := K) (by rfl) T.enumerate_ (pa_cons (pv 0) pa_nil)) (kgTup (K := K) rfl (pgs_cons (pg_name (i := 2) nd rfl (Or.inl rfl)) (pgs_cons (pg_name (i := 3) nd rfl (Or.inl rfl)) pgs_nil))) (pss_one (ps_for PassesOwn.never rfl (kTup (K := K) (pe_slice (kSlA (K := K)) (pv 0) (po_some (pe_op op_add (pv 2) pe_int)) po_none)) (pg_name (i := 4) nd rfl (Or.inl rfl)) (pss_cons (ps_set (i := 5) nd rfl (Or.inl rfl) (pe_cl C_lowest (hr.mono (by decide)) (by rfl) (pa_cons (pe_cl C_cross (hr.mono (by decide)) (by rfl) (pa_cons (pv 3) (pa_cons (pv 4) pa_nil))) pa_nil)))
      (pss_cons (ps_dput (hu_of hr) (pv 1) (pv 5) pe_bl rfl)
      (pss_one (ps_dput (hu_of hr) (pv 1) (pe_cl C_negative (hr.mono (by decide)) (by rfl) (pa_cons (pv 5) pa_nil)) pe_bl rfl)))))))
      (pss_one (ps_ret (pv 1))))), ?_⟩
  intro B ks O Φ hl ⟨Ps, e1, hP, e2, q⟩
  subst e1 e2
  have h5 := hP.le
  walk_at "sk"
  refine ev_dnew fun r => ?_
  walk_at "sk"
  refine sx_for (ei_enum ?_)
  walk_at "sk"
  refine ⟨_, rfl, fun i ρ' O' => ∃ cs, O' = [(r, .dic cs)] ∧ CI (prs Ps i) cs ∧ i ≤ Ps.length ∧ ∃ y1 y2 y3 y4, ρ' = [some (.dat (.tuple (Ps.map V3.d))), some (.ptr r), y1, y2, y3, y4],
    ⟨[], rfl, ⟨List.nodup_nil, fun k => by simp [prs, keys]⟩, Nat.zero_le _, _, _, _, _, rfl⟩, (fun _ _ _ _ _ q hq => nomatch hq), fun i k ρ' O' hk hI => ?_, fun ρ' O' hI => ?_⟩
  · obtain ⟨cs, rfl, hci, hi, y1, y2, y3, y4, rfl⟩ := hI
    obtain ⟨p, hp, rfl⟩ := numD_map hk
    have hil := (List.getElem?_eq_some_iff.mp hp).1
    have hpm := List.mem_of_getElem? hp
    walk_at "sk"
    refine sx_for (ei_tup (ev_slT ?_))
    walk_at "sk"
    refine eo_some ?_
    walk_at "sk"
    refine eo_none ?_
    rw [cut_from hil]
    refine ⟨_, rfl, fun j ρ' O' => ∃ cs, O' = [(r, .dic cs)] ∧ CI (prs Ps i ++ ((Ps.drop (i + 1)).take j).map fun q => (p, q)) cs ∧ j ≤ (Ps.drop (i + 1)).length ∧ ∃ y3 y4, ρ' = [some (.dat (.tuple (Ps.map V3.d))), some (.ptr r), some (.dat (.int i)), some (.dat p.d), y3, y4],
      ⟨cs, rfl, by simpa using hci, Nat.zero_le _, _, _, rfl⟩, (fun _ _ _ _ _ q hq => nomatch hq), fun j k ρ' O' hk hI => ?_, fun ρ' O' hI => ?_⟩
    · obtain ⟨cs, rfl, hci, hj, y3, y4, rfl⟩ := hI
      rw [List.getElem?_map, List.getElem?_map] at hk
      cases hq : (Ps.drop (i + 1))[j]? with
      | none => rw [hq] at hk; cases hk
      | some q =>
        rw [hq] at hk
        cases hk
        have hqm : q ∈ Ps := List.mem_of_mem_drop (List.mem_of_getElem? hq)
        have hq2 : Ps[i + 1 + j]? = some q := by rw [← List.getElem?_drop]; exact hq
        have hne : p ≠ q := fun e => by
          subst e
          have hb := (List.getElem?_eq_some_iff.mp hq2).1
          have := (List.getElem?_inj hil hP.nd).mp (hp.trans hq2.symm)
          omega
        have hz := V3.cross_nz (hP.nm p hpm) (hP.nm q hqm) hne
        have hb := (hP.bd p hpm).cross (hP.bd q hqm)
        have hlen : cs.length ≤ 200 := hci.len (by
          rw [List.length_append, List.length_map, List.length_take]
          have h1 := prs_len h5 (n := i) (by omega)
          have h2 : (Ps.drop (i + 1)).length ≤ 5 := by rw [List.length_drop]; omega
          omega)
        have hput : ∀ k d, (put cs k d).length ≤ 201 := fun k d => by
          have h1 : (keys (put cs k d)).length ≤ (keys cs).length + 1 := by
            rw [keys_put]
            split
            · omega
            · rw [List.length_append]; simp
          unfold keys at h1
          rw [List.length_map, List.length_map] at h1
          omega
        walk_at "sk"
        refine ⟨rfl, callK0 ⟨p, q, rfl, .inl ((hP.bd p hpm).sm (by decide)), rfl, ?_⟩⟩
        walk_at "sk"
        refine ⟨rfl, callK0 ⟨(p.cross q).l, rfl, by simp, hb.gOk (by decide) hz, rfl, ?_⟩⟩
        rw [V3.l_low]
        walk_at "sk"
        refine sx_dput ?_
        walk_at "sk"
        refine ⟨r, cs, (p.cross q).low.l, 0, rfl, rfl, rfl, by omega, ?_⟩
        walk_at "sk"
        refine sx_dput ?_
        walk_at "sk"
        refine ⟨rfl, callK0 ⟨(p.cross q).low.l, rfl, by simp, rfl, ?_⟩⟩
        rw [V3.l_neg]
        refine ⟨r, _, (p.cross q).low.neg.l, 0, rfl, rfl, rfl, by have := hput (p.cross q).low.l (.bool true); omega, ?_⟩
        refine ⟨_, sub_refl _, _, rfl, ?_, ?_, _, _, rfl⟩
        · rw [List.take_add_one, hq, List.map_append, ← List.append_assoc]
          exact hci.snoc
        · have := (List.getElem?_eq_some_iff.mp hq).1
          omega
    · obtain ⟨cs, rfl, hci, hj, y3, y4, rfl⟩ := hI
      refine ⟨_, sub_refl _, cs, rfl, ?_, by omega, _, _, _, _, rfl⟩
      rw [List.length_map, List.length_map, List.take_length] at hci
      have eg : Ps.getD i ⟨0, 0, 0⟩ = p := by rw [List.getD_eq_getElem?_getD, hp]; rfl
      rw [prs, eg]
      exact hci
  · obtain ⟨cs, rfl, hci, hi, y1, y2, y3, y4, rfl⟩ := hI
    rw [List.length_map, numD_len, List.length_map] at hci
    walk_at "sk"
    exact ⟨_, sub_refl _, q r cs (corners_of hP hci)⟩

def w_level_ray : WT := fun ks O Φ => ∃ p : V3, ks = [.dat p.d] ∧ p.Norm ∧ p.Bd 12 ∧ O = [] ∧ ∀ r : V3, r.Prim → p.dot r = 0 → r.Bd 12 → Φ (.dat r.d) []
theorem cl_level_ray (T : Bt mg) (F : Df K mg "level_ray" s_level_ray f fd) (C_lowest : Cl P w K mg base "lowest" 2 1 w_lowest) : Cl P w K mg base "level_ray" 3 1 w_level_ray := by
  have nd := sc_level_ray.nd
  refine cl_of 2 1 F sc_level_ray rfl (fun _ _ _ _ _ _ us hl => match us, hl with | [_], _ => rfl) fun cdv A outer s H E hr => ⟨_, (pss_one (ps_ret (pe_ifExp (PW.pt (pw_or (pt_cmpR (kNeD (K := K) hr.units) (pe_ix (kIx (K := K)) (pv 0) pe_int (fun _ _ => rfl)) pe_int (nomark _)) (pw_or1 (pt_cmpR (kNeD (K := K) hr.units) (pe_ix (kIx (K := K)) (pv 0) pe_int (fun _ _ => rfl)) pe_int (nomark _))))) (pe_cl C_lowest (hr.mono (by decide)) (by rfl) (pa_cons (pe_tup (pa_cons (pe_un un_neg (pe_ix (kIx (K := K)) (pv 0) pe_int (fun _ _ => rfl))) (pa_cons (pe_ix (kIx (K := K)) (pv 0) pe_int (fun _ _ => rfl)) (pa_cons pe_int pa_nil)))) pa_nil)) (pe_tup (pa_cons pe_int (pa_cons pe_int (pa_cons pe_int pa_nil))))))), ?_⟩
  intro B ks O Φ hl ⟨p, e1, hn, hb, e2, q⟩
  subst e1 e2
  have main : (p.x ≠ 0 ∨ p.y ≠ 0) → ∃ r : V3, lowI [-p.y, p.x, 0] = r.l ∧ GOk [-p.y, p.x, 0] ∧ r.Prim ∧ p.dot r = 0 ∧ r.Bd 12 := fun h => by
    have hz : (⟨-p.y, p.x, 0⟩ : V3).nz := fun e => by
      simp only at e
      omega
    have hbd : (⟨-p.y, p.x, 0⟩ : V3).Bd 12 := ⟨by simpa using hb.2.1, hb.1, by show (0 : Int).natAbs < 2 ^ 12; decide⟩
    refine ⟨(⟨-p.y, p.x, 0⟩ : V3).low, rfl, hbd.gOk (by decide) hz, V3.low_prim hz, (zero_low hz).mpr ?_, hbd.low⟩
    unfold V3.dot
    simp only
    grind
  walk_at "sk"
  rw [eqv_int]
  have eb : ∀ n : Int, (!(n == 0)) = true ↔ n ≠ 0 := fun n => by simp
  have eb2 : ∀ n : Int, (!(n == 0)) = false ↔ n = 0 := fun n => by simp
  have fin : (p.x ≠ 0 ∨ p.y ≠ 0) → Ev B (tCall (spW 1 w_lowest) [] E0 (tCons (tTup (tCons (tUn (rU fun i => V.int (-i)) (tOp (rIx K) (tVar 0) (tC (V.int 1)))) (tCons (tOp (rIx K) (tVar 0) (tC (V.int 0))) (tCons (tC (V.int 0)) tNil)))) tNil)) (List.map some [Kn.dat p.d] ++ List.replicate (N_level_ray.length - 1) none) [] (endsOf Φ).rt := fun h => by
    obtain ⟨r, e, g, r1, r2, r3⟩ := main h
    walk_at "sk"
    refine ⟨rfl, callK0 ⟨[-p.y, p.x, 0], rfl, by simp, g, rfl, ?_⟩⟩
    rw [e]
    exact ⟨_, sub_nil _, q r r1 r2 r3⟩
  refine ⟨fun h => pickT rfl (fin (.inl ((eb _).mp h))), fun h => ?_⟩
  have hx := (eb2 _).mp h
  walk_at "sk"
  rw [eqv_int]
  refine ⟨fun h => fin (.inr ((eb _).mp h)), fun h => ?_⟩
  have hy := (eb2 _).mp h
  walk_at "sk"
  exact ⟨_, sub_nil _, q ⟨1, 0, 0⟩ (show V3.gN ⟨1, 0, 0⟩ = 1 by decide) (by unfold V3.dot; simp [hx]) ⟨by decide, by decide, by decide⟩⟩
end
end Sk


/-! Ce3: arc rays -/
namespace Sk
open PySem PySem.Spec PyProof.Rows L2
local macro_rules | `(tactic| walk_at "sk") => `(tactic| repeat' (first
  | ((with_reducible show Ev _ (tVar _) _ _ _); refine ev_var rfl ?_) | with_reducible refine ev_int ?_ | with_reducible refine ev_bl ?_ | with_reducible refine ev_non ?_ | with_reducible refine ev_str ?_ | with_reducible refine ev_ty ?_ | with_reducible refine ev_ref ?_
  | with_reducible refine ev_op ?_ | with_reducible refine ev_un ?_ | with_reducible refine ev_cb ?_ | with_reducible refine ea_cons ?_ | with_reducible refine ea_nil ?_
  | with_reducible refine ev_if ?_ | with_reducible refine ev_and ?_ | with_reducible refine ev_or ?_ | with_reducible refine ev_not ?_ | with_reducible refine ev_tup ?_ | with_reducible refine ev_call ?_
  | with_reducible refine sx_seq ?_ | with_reducible refine sx_asg ?_ | with_reducible refine tg_name ?_ | with_reducible refine sx_ret ?_ | with_reducible refine sx_next ?_ | with_reducible refine sx_drop ?_ | with_reducible refine sx_if ?_
  | with_reducible refine et_chain ?_ | with_reducible refine et_test ?_ | with_reducible refine et_B ?_ | with_reducible refine et_not ?_ | with_reducible refine et_and ?_ | with_reducible refine et_or ?_
  | with_reducible refine o_add ?_ | with_reducible refine o_sub ?_ | with_reducible refine o_lt ?_ | with_reducible refine o_le ?_ | with_reducible refine o_gt ?_ | with_reducible refine o_ge ?_
  | with_reducible refine o_neg ?_ | with_reducible refine o_subB ?_ | with_reducible refine o_mul ?_ ?_
  | ((with_reducible show Op2 _ (rIx _) _ _ _ _); refine o_ix (.tup _) rfl ?_)
  | ((with_reducible show Op2 _ (rEqD _) _ _ _ _); (first | refine o_eqD (.dat _) (.dat _) rfl rfl ?_ | refine o_eqD (.dat _) (.dat _) (by decide +kernel) (by decide +kernel) ?_))
  | ((with_reducible show Op2 _ (rNeD _) _ _ _ _); (first | refine o_neD (.dat _) (.dat _) rfl rfl ?_ | refine o_neD (.dat _) (.dat _) (by decide +kernel) (by decide +kernel) ?_))
  | ((with_reducible show Op2 _ (rIn _ false) _ _ _ _); refine o_in (.tup _) (by rfl) (by rfl) ?_) | ((with_reducible show Op2 _ (rIn _ true) _ _ _ _); refine o_notIn (.tup _) (by rfl) (by rfl) ?_)
  | ((with_reducible show OpC _ (rIsi _) _ _ _); (first | refine oc_isi (b := true) (by rfl) ?_ | refine oc_isi (b := false) (by rfl) ?_))
  | ((with_reducible show OpC _ _ _ _ _); refine oc_len (.tup _) ?_)
  | ((with_reducible show Tg _ (gTup _ _ _) _ _ _ _); (first | with_reducible refine tg_pair ?_ | refine tg_tup rfl ?_)) | ((with_reducible show Tgs _ (gCons _ _) _ _ _ _); refine tgs_cons ?_) | ((with_reducible show Tgs _ gNil _ _ _ _); refine tgs_nil ?_)
  | ((with_reducible show ∃ ds, alld _ ds ∧ _); (first
    | refine ⟨[_, _, _], ⟨rfl, rfl, rfl, trivial⟩, Nat.le_of_ble_eq_true rfl, ?_⟩ | refine ⟨[_, _], ⟨rfl, rfl, trivial⟩, Nat.le_of_ble_eq_true rfl, ?_⟩ | refine ⟨[_], ⟨rfl, trivial⟩, Nat.le_of_ble_eq_true rfl, ?_⟩ | refine ⟨[], trivial, Nat.le_of_ble_eq_true rfl, ?_⟩
    | refine ⟨[_, _, _, _], ⟨rfl, rfl, rfl, rfl, trivial⟩, Nat.le_of_ble_eq_true rfl, ?_⟩ | refine ⟨[_, _, _, _, _], ⟨rfl, rfl, rfl, rfl, rfl, trivial⟩, Nat.le_of_ble_eq_true rfl, ?_⟩ | refine ⟨[_, _, _, _, _, _], ⟨rfl, rfl, rfl, rfl, rfl, rfl, trivial⟩, Nat.le_of_ble_eq_true rfl, ?_⟩
    | refine ⟨[_, _, _, _, _, _, _], ⟨rfl, rfl, rfl, rfl, rfl, rfl, rfl, trivial⟩, Nat.le_of_ble_eq_true rfl, ?_⟩))
  | ((with_reducible show (_ = true → _) ∧ (_ = false → _)); (first | refine pickT rfl ?_ | refine pickF rfl ?_))
  | ((with_reducible show ∃ _, Kn.dat (PyData.bool _) = Kn.dat (PyData.bool _) ∧ _); refine ⟨_, rfl, ?_⟩)
  | ((with_reducible show ∃ _, Kn.dat _ = Kn.dat _ ∧ _); refine ⟨_, rfl, ?_⟩) | fail))

section
variable {P : Program} {w : World} {K : PySem.W.Frag} {mg : Str → Option Value} {base : Heap} {f : Addr} {fd : FuncData} {C : Addr}

/-- the rays that the program walks on the plane p, behind the corners vs -/
structure AR (Ps vs : List V3) (p : V3) (L0 rs : List V3) : Prop where
  all : ∀ r ∈ rs, r ∈ L0 ∨ ∃ v ∈ vs, ∃ s, p.dot v = 0 ∧ (s = p.cross v ∨ s = (p.cross v).neg) ∧ Near Ps v s r ∧ r.Bd 100
  has : ∀ v ∈ vs, p.dot v = 0 → ∀ s, (s = p.cross v ∨ s = (p.cross v).neg) → ∃ r ∈ rs, Near Ps v s r
  sub : ∀ r ∈ L0, r ∈ rs
  len : rs.length ≤ L0.length + 2 * vs.length
theorem AR.nil {Ps : List V3} {p : V3} {L0 : List V3} : AR Ps [] p L0 L0 := ⟨fun r h => .inl h, (fun v h => nomatch h), fun r h => h, by simp⟩
theorem AR.skip {Ps vs : List V3} {p v : V3} {L0 rs : List V3} (h : AR Ps vs p L0 rs) (hv : p.dot v ≠ 0) : AR Ps (vs ++ [v]) p L0 rs := by
  refine ⟨fun r hr => ?_, fun u hu h0 => ?_, h.sub, ?_⟩
  · rcases h.all r hr with h1 | ⟨u, hu, s, h1⟩
    · exact .inl h1
    · exact .inr ⟨u, List.mem_append_left _ hu, s, h1⟩
  · rcases List.mem_append.mp hu with hu | hu
    · exact h.has u hu h0
    · rw [List.mem_singleton.mp hu] at h0
      exact absurd h0 hv
  · have := h.len
    rw [List.length_append, List.length_singleton]
    omega
theorem AR.add {Ps vs : List V3} {p v r1 r2 : V3} {L0 rs : List V3} (h : AR Ps vs p L0 rs) (hv : p.dot v = 0) (n1 : Near Ps v (p.cross v) r1) (n2 : Near Ps v (p.cross v).neg r2) (b1 : r1.Bd 100) (b2 : r2.Bd 100) : AR Ps (vs ++ [v]) p L0 (rs ++ [r1, r2]) := by
  refine ⟨fun r hr => ?_, fun u hu h0 s hs => ?_, fun r hr => List.mem_append_left _ (h.sub r hr), ?_⟩
  · rcases List.mem_append.mp hr with hr | hr
    · rcases h.all r hr with h1 | ⟨u, hu, s, h1⟩
      · exact .inl h1
      · exact .inr ⟨u, List.mem_append_left _ hu, s, h1⟩
    · simp only [List.mem_cons, List.not_mem_nil, or_false] at hr
      rcases hr with rfl | rfl
      · exact .inr ⟨v, by simp, _, hv, .inl rfl, n1, b1⟩
      · exact .inr ⟨v, by simp, _, hv, .inr rfl, n2, b2⟩
  · rcases List.mem_append.mp hu with hu | hu
    · obtain ⟨r, hr, hn⟩ := h.has u hu h0 s hs
      exact ⟨r, List.mem_append_left _ hr, hn⟩
    · rw [List.mem_singleton.mp hu] at hs ⊢
      rcases hs with rfl | rfl
      · exact ⟨r1, by simp, n1⟩
      · exact ⟨r2, by simp, n2⟩
  · have := h.len
    rw [List.length_append, List.length_append, List.length_singleton]
    simp only [List.length_cons, List.length_nil]
    omega
/-- the ray ahead of the corners -/
structure L0ok (Ps : List V3) (p : V3) (L0 : List V3) : Prop where
  two : 2 ≤ Ps.length → L0 = []
  one : Ps.length = 1 → L0 ≠ []
  ray : ∀ r ∈ L0, Ps.length = 1 ∧ r.Prim ∧ p.dot r = 0 ∧ r.Bd 12
  len : L0.length ≤ 1
def flatR (Ps : List V3) (RS : List (List V3)) : List (V3 × V3) := (Ps.zip RS).flatMap fun pr => pr.2.map fun r => (pr.1, r)
theorem done_of {Ps vs : List V3} {RS : List (List V3)} (hP : Pl Ps) (hv : ∀ v, v ∈ vs ↔ Cor Ps v) (hl : RS.length = Ps.length) (h : ∀ pr ∈ Ps.zip RS, ∃ L0, L0ok Ps pr.1 L0 ∧ AR Ps vs pr.1 L0 pr.2) : Done Ps (flatR Ps RS) := by
  have mem : ∀ {pr : V3 × V3}, pr ∈ flatR Ps RS ↔ ∃ rs, (pr.1, rs) ∈ Ps.zip RS ∧ pr.2 ∈ rs := fun {pr} => by
    unfold flatR
    rw [List.mem_flatMap]
    constructor
    · rintro ⟨x, hx, hm⟩
      obtain ⟨r, hr, rfl⟩ := List.mem_map.mp hm
      exact ⟨x.2, hx, hr⟩
    · rintro ⟨rs, hx, hr⟩
      exact ⟨(pr.1, rs), hx, List.mem_map.mpr ⟨pr.2, hr, rfl⟩⟩
  have arc : ∀ {p : V3} {v s r : V3}, p ∈ Ps → Cor Ps v → p.dot v = 0 → (s = p.cross v ∨ s = (p.cross v).neg) → Near Ps v s r → Arc Ps p (sg Ps r) := fun hp hc h0 hs hn =>
    ⟨hp, _, _, hc, h0, hs, hn.sg (hc.prim hP).nz (step_perp hs)⟩
  refine ⟨fun pr hm => ?_, fun h2 => ⟨fun pr hm => ?_, fun q a ha => ?_⟩, fun h1 => ?_⟩
  · obtain ⟨rs, hx, hr⟩ := mem.mp hm
    have hp : pr.1 ∈ Ps := (List.of_mem_zip hx).1
    obtain ⟨L0, l0, ar⟩ := h _ hx
    rcases ar.all _ hr with h1 | ⟨v, hvm, s, h0, hs, hn, hb⟩
    · obtain ⟨e, r1, r2, r3⟩ := l0.ray _ h1
      refine ⟨hp, r1, r2, fun q hq _ => ?_, r3.mono (by decide)⟩
      obtain ⟨x, ex⟩ := List.length_eq_one_iff.mp e
      rw [ex] at hp hq
      rw [List.mem_singleton.mp hq, List.mem_singleton.mp hp]
    · have hc := (hv v).mp hvm
      have ha := arc hp hc h0 hs hn
      exact ⟨hp, hn.prim (hc.prim hP).nz (step_perp hs), ha.on rfl, fun q hq h => ha.one hP rfl hq h, hb⟩
  · obtain ⟨rs, hx, hr⟩ := mem.mp hm
    have hp : pr.1 ∈ Ps := (List.of_mem_zip hx).1
    obtain ⟨L0, l0, ar⟩ := h _ hx
    rcases ar.all _ hr with h1 | ⟨v, hvm, s, h0, hs, hn, hb⟩
    · rw [l0.two h2] at h1
      exact nomatch h1
    · exact arc hp ((hv v).mp hvm) h0 hs hn
  · obtain ⟨hq, v, s, hc, h0, hs, e⟩ := ha
    obtain ⟨i, hi⟩ := List.mem_iff_getElem?.mp hq
    have hil := (List.getElem?_eq_some_iff.mp hi).1
    have hx : (q, RS[i]'(by omega)) ∈ Ps.zip RS := by
      refine List.mem_iff_getElem?.mpr ⟨i, ?_⟩
      rw [List.getElem?_zip_eq_some]
      exact ⟨hi, List.getElem?_eq_getElem (by omega)⟩
    obtain ⟨L0, l0, ar⟩ := h _ hx
    obtain ⟨r, hr, hn⟩ := ar.has v ((hv v).mpr hc) h0 s hs
    exact ⟨(q, r), mem.mpr ⟨_, hx, hr⟩, rfl, by rw [e]; exact hn.sg (hc.prim hP).nz (step_perp hs)⟩
  · obtain ⟨p, ep⟩ := List.length_eq_one_iff.mp h1
    obtain ⟨rs, er⟩ := List.length_eq_one_iff.mp (hl.trans h1)
    have hx : (p, rs) ∈ Ps.zip RS := by rw [ep, er]; simp
    obtain ⟨L0, l0, ar⟩ := h _ hx
    obtain ⟨r, hr⟩ := List.exists_mem_of_ne_nil _ (l0.one h1)
    exact List.ne_nil_of_mem (mem.mpr ⟨rs, hx, ar.sub r hr⟩ : (p, r) ∈ _)
theorem Corners.len {Ps : List V3} {cs : Kv} (h5 : Ps.length ≤ 5) (h : Corners Ps cs) : cs.length ≤ 50 := by
  have := nodup_le (m := Ps.flatMap fun p => Ps.flatMap fun q => [(p.cross q).low.l, (p.cross q).low.neg.l]) h.nd fun k hk => by
    obtain ⟨v, ⟨p, hp, q, hq, _, e⟩, rfl⟩ := (h.ks k).mp hk
    exact List.mem_flatMap.mpr ⟨p, hp, List.mem_flatMap.mpr ⟨q, hq, by rcases e with rfl | rfl <;> simp⟩⟩
  have l1 : ∀ (Q : List V3) (p : V3), (Q.flatMap fun q => ([(p.cross q).low.l, (p.cross q).low.neg.l] : List Rw)).length = 2 * Q.length := fun Q p => by
    induction Q with
    | nil => rfl
    | cons q Q ih => rw [List.flatMap_cons, List.length_append, ih, List.length_cons]; simp; omega
  have l2 : ∀ Q R : List V3, (Q.flatMap fun p => R.flatMap fun q => ([(p.cross q).low.l, (p.cross q).low.neg.l] : List Rw)).length = 2 * R.length * Q.length := fun Q R => by
    induction Q with
    | nil => rfl
    | cons q Q ih => rw [List.flatMap_cons, List.length_append, ih, l1, List.length_cons, Nat.mul_succ]; omega
  rw [l2] at this
  unfold keys at this
  rw [List.length_map] at this
  have : 2 * Ps.length * Ps.length ≤ 2 * 5 * 5 := Nat.mul_le_mul (Nat.mul_le_mul_left _ h5) h5
  omega
/-- the lists of rays, as owned -/
def raysC (ps : List Addr) (RS : List (List V3)) : Cs := List.zipWith (fun p rs => (p, Cell.lst (rs.map V3.d))) ps RS
def w_arc_rays : WT := fun ks O Φ => ∃ (Ps vs : List V3) (cs : Kv) (c : Addr), ks = [.dat (.tuple (Ps.map V3.d)), .ptr c] ∧ Pl Ps ∧ Ps ≠ [] ∧ keys cs = vs.map V3.l ∧ (∀ v ∈ vs, Cor Ps v) ∧ vs.length ≤ 50 ∧ O = [(c, .dic cs)] ∧
  ∀ q ps RS od ws, ps.length = Ps.length → RS.length = Ps.length → (∀ pr ∈ Ps.zip RS, ∃ L0, L0ok Ps pr.1 L0 ∧ AR Ps vs pr.1 L0 pr.2) → Φ (.ptr q) ((q, .lps ps) :: (c, .fz od ws cs) :: raysC ps RS)
theorem dotK {v : V3} : (tupI v.l) = v.d := rfl
theorem cl_arc_rays (T : Bt mg) (F : Df K mg "arc_rays" s_arc_rays f fd) (C_level_ray : Cl P w K mg base "level_ray" 3 1 w_level_ray) (C_dot : Cl P w K mg base "dot" 1 2 w_dot) (C_cross : Cl P w K mg base "cross" 1 2 w_cross) (C_near : Cl P w K mg base "near" 3 3 w_near) (C_negative : Cl P w K mg base "negative" 1 1 w_negative) : Cl P w K mg base "arc_rays" 4 2 w_arc_rays := by
  have nd := sc_arc_rays.nd
  refine cl_of 3 2 F sc_arc_rays rfl (fun _ _ _ _ _ _ us hl => match us, hl with | [_, _], _ => rfl) fun cdv A outer s H E hr => ⟨_, (pss_cons (ps_set (i := 2) nd rfl (Or.inl rfl) (pe_lst pa_nil))
      (pss_cons (ps_for PassesOwn.never rfl (kTup (K := K) (pv 0)) (pg_name (i := 3) nd rfl (Or.inl rfl)) (pss_cons (ps_set (i := 4) nd rfl (Or.inl rfl) (pe_ifExp (pt_cmpR op_gt (pe_callB (kLen (K := K)) (by rfl) T.len_ (by decide +kernel) (pa_cons (pv 0) pa_nil)) pe_int (nomark _)) (pe_lst pa_nil) (pe_lst (pa_cons (pe_cl C_level_ray (hr.mono (by decide)) (by rfl) (pa_cons (pv 3) pa_nil)) pa_nil))))
      (pss_cons (ps_for PassesOwn.never rfl (Nw.pi_keysF (pv 1)) (pg_name (i := 5) nd rfl (Or.inl rfl)) (pss_one (ps_if (pt_cmpR (kEqD (K := K) hr.units) (pe_cl C_dot (hr.mono (by decide)) (by rfl) (pa_cons (pv 3) (pa_cons (pv 5) pa_nil))) pe_int (nomark _)) (pss_cons (ps_set (i := 6) nd rfl (Or.inl rfl) (pe_cl C_cross (hr.mono (by decide)) (by rfl) (pa_cons (pv 3) (pa_cons (pv 5) pa_nil))))
      (pss_one (ps_expr (kBM (K := K) PySem.F.plainAttrs_list PySem.F.slot_list_extend PySem.F.type_list_extend mt_extend (pv 4) (pa_cons (pe_lst (pa_cons (pe_cl C_near (hr.mono (by decide)) (by rfl) (pa_cons (pv 0) (pa_cons (pv 5) (pa_cons (pv 6) pa_nil)))) (pa_cons (pe_cl C_near (hr.mono (by decide)) (by rfl) (pa_cons (pv 0) (pa_cons (pv 5) (pa_cons (pe_cl C_negative (hr.mono (by decide)) (by rfl) (pa_cons (pv 6) pa_nil)) pa_nil)))) pa_nil))) pa_nil))))) pss_nil)))
      (pss_one (ps_expr (kBM (K := K) PySem.F.plainAttrs_list PySem.F.slot_list_append PySem.F.type_list_append mt_append (pv 2) (pa_cons (pv 4) pa_nil)))))))
      (pss_one (ps_ret (pv 2))))), ?_⟩
  intro B ks O Φ hl ⟨Ps, vs, cs, c, e1, hP, hne, hk, hc, hv50, e2, q⟩
  subst e1 e2
  have h5 := hP.le
  have hcl : cs.length = vs.length := by
    have := congrArg List.length hk
    unfold keys at this
    rw [List.length_map, List.length_map] at this
    exact this
  walk_at "sk"
  refine ev_lps fun qa => ?_
  walk_at "sk"
  refine sx_for (ei_tup ?_)
  walk_at "sk"
  refine ⟨fun i ρ' O' => ∃ ps RS X, O' = (qa, .lps ps) :: (c, X) :: raysC ps RS ∧ ps.length = i ∧ RS.length = i ∧ ((i = 0 ∧ X = .dic cs) ∨ ∃ od ws, X = .fz od ws cs) ∧ (∀ pr ∈ (Ps.take i).zip RS, ∃ L0, L0ok Ps pr.1 L0 ∧ AR Ps vs pr.1 L0 pr.2) ∧ i ≤ Ps.length ∧
      ∃ y1 y2 y3 y4, ρ' = [some (.dat (.tuple (Ps.map V3.d))), some (.ptr c), some (.ptr qa), y1, y2, y3, y4],
    ⟨[], [], _, rfl, rfl, rfl, .inl ⟨rfl, rfl⟩, by simp, Nat.zero_le _, _, _, _, _, rfl⟩, (fun _ _ _ _ _ q hq => nomatch hq), fun i k ρ' O' hk2 hI => ?_, fun ρ' O' hI => ?_⟩
  · obtain ⟨ps, RS, X, rfl, hps, hRS, hX, hAR, hi, y1, y2, y3, y4, rfl⟩ := hI
    rw [List.getElem?_map, List.getElem?_map] at hk2
    cases hp : Ps[i]? with
    | none => rw [hp] at hk2; cases hk2
    | some p =>
      rw [hp] at hk2
      cases hk2
      have hpm := List.mem_of_getElem? hp
      have hil := (List.getElem?_eq_some_iff.mp hp).1
      -- the loop over the corners, behind the first rays
      have inner : ∀ (E : AE) (r : Addr) (L0 : List V3), L0ok Ps p L0 → (∀ od ws rs y5 y6, AR Ps vs p L0 rs → E.nx [some (.dat (.tuple (Ps.map V3.d))), some (.ptr c), some (.ptr qa), some (.dat p.d), some (.ptr r), y5, y6] ((r, .lst (rs.map V3.d)) :: (qa, .lps (ps ++ [r])) :: (c, .fz od ws cs) :: raysC ps RS)) →
          Sx B (tSeq (tFor (Nw.iKeysF (tVar 1)) (gName 5) (tIfS (tTest (tOp (rEqD K) (tCall (spW 2 w_dot) [] E0 (tCons (tVar 3) (tCons (tVar 5) tNil))) (tC (.int 0)))) (tSeq (tAsg (tCall (spW 2 w_cross) [] E0 (tCons (tVar 3) (tCons (tVar 5) tNil))) (gName 6)) (tDrop (tBM K "list" rExtend (tVar 4) (tCons (tLst (tCons (tCall (spW 3 w_near) [] E0 (tCons (tVar 0) (tCons (tVar 5) (tCons (tVar 6) tNil)))) (tCons (tCall (spW 3 w_near) [] E0 (tCons (tVar 0) (tCons (tVar 5) (tCons (tCall (spW 1 w_negative) [] E0 (tCons (tVar 6) tNil)) tNil)))) tNil))) tNil)))) tNext)) (tDrop (tBM K "list" rAppend (tVar 2) (tCons (tVar 4) tNil))))
          [some (.dat (.tuple (Ps.map V3.d))), some (.ptr c), some (.ptr qa), some (.dat p.d), some (.ptr r), y3, y4] ((r, .lst (L0.map V3.d)) :: (qa, .lps ps) :: (c, X) :: raysC ps RS) E := fun E r L0 hL0 fin => by
        walk_at "sk"
        refine sx_for (ei_keys ?_)
        walk_at "sk"
        refine ⟨c, cs, 2, rfl, ?_⟩
        have items : (cs.map fun kv => Kn.dat (tupI kv.1)) = vs.map fun v => Kn.dat v.d := by
          have e : (cs.map fun kv => Kn.dat (tupI kv.1)) = (keys cs).map fun k => Kn.dat (tupI k) := by unfold keys; rw [List.map_map]; rfl
          rw [e, hk, List.map_map]; rfl
        rw [items]
        have e0 := hL0.len
        have core : ∀ od ws, ∃ I : Nat → Sl → Cs → Prop, I 0 [some (.dat (.tuple (Ps.map V3.d))), some (.ptr c), some (.ptr qa), some (.dat p.d), some (.ptr r), y3, y4] ((r, .lst (L0.map V3.d)) :: (qa, .lps ps) :: (c, .fz od ws cs) :: raysC ps RS) ∧
            (∀ j ρ' O', I j ρ' O' → ∃ rs, O' = (r, .lst (rs.map V3.d)) :: (qa, .lps ps) :: (c, .fz od ws cs) :: raysC ps RS ∧ AR Ps (vs.take j) p L0 rs ∧ ∃ y5 y6, ρ' = [some (.dat (.tuple (Ps.map V3.d))), some (.ptr c), some (.ptr qa), some (.dat p.d), some (.ptr r), y5, y6]) ∧
            (∀ j ρ' O', (∃ rs, O' = (r, .lst (rs.map V3.d)) :: (qa, .lps ps) :: (c, .fz od ws cs) :: raysC ps RS ∧ AR Ps (vs.take j) p L0 rs ∧ ∃ y5 y6, ρ' = [some (.dat (.tuple (Ps.map V3.d))), some (.ptr c), some (.ptr qa), some (.dat p.d), some (.ptr r), y5, y6]) → I j ρ' O') := fun od ws =>
          ⟨fun j ρ' O' => ∃ rs, O' = (r, .lst (rs.map V3.d)) :: (qa, .lps ps) :: (c, .fz od ws cs) :: raysC ps RS ∧ AR Ps (vs.take j) p L0 rs ∧ ∃ y5 y6, ρ' = [some (.dat (.tuple (Ps.map V3.d))), some (.ptr c), some (.ptr qa), some (.dat p.d), some (.ptr r), y5, y6],
            ⟨L0, rfl, .nil, _, _, rfl⟩, fun _ _ _ h => h, fun _ _ _ h => h⟩
        have fin2 : ∀ od ws, ∃ I : Nat → Sl → Cs → Prop, I 0 [some (.dat (.tuple (Ps.map V3.d))), some (.ptr c), some (.ptr qa), some (.dat p.d), some (.ptr r), y3, y4] ((r, .lst (L0.map V3.d)) :: (qa, .lps ps) :: (c, .fz od ws cs) :: raysC ps RS) ∧ (∀ i ρ' O', i ≤ (vs.map fun v => Kn.dat v.d).length → I i ρ' O' → ∀ q ∈ [(c, Cell.fz od ws cs)], q ∈ O') ∧
            (∀ i k ρ' O', (vs.map fun v => Kn.dat v.d)[i]? = some k → I i ρ' O' → Tg B (gName 5) k ρ' O' fun ρ2 O2 => Sx B (tIfS (tTest (tOp (rEqD K) (tCall (spW 2 w_dot) [] E0 (tCons (tVar 3) (tCons (tVar 5) tNil))) (tC (.int 0)))) (tSeq (tAsg (tCall (spW 2 w_cross) [] E0 (tCons (tVar 3) (tCons (tVar 5) tNil))) (gName 6)) (tDrop (tBM K "list" rExtend (tVar 4) (tCons (tLst (tCons (tCall (spW 3 w_near) [] E0 (tCons (tVar 0) (tCons (tVar 5) (tCons (tVar 6) tNil)))) (tCons (tCall (spW 3 w_near) [] E0 (tCons (tVar 0) (tCons (tVar 5) (tCons (tCall (spW 1 w_negative) [] E0 (tCons (tVar 6) tNil)) tNil)))) tNil))) tNil)))) tNext) ρ2 O2
              ⟨fun ρ3 O3 => ∃ O4, Sub O4 O3 ∧ I (i + 1) ρ3 O4, E.rt, fun ρ' O' => Sx B (tDrop (tBM K "list" rAppend (tVar 2) (tCons (tVar 4) tNil))) ρ' O' E, fun ρ3 O3 => ∃ O4, Sub O4 O3 ∧ I (i + 1) ρ3 O4⟩) ∧
            ∀ ρ' O', I (vs.map fun v => Kn.dat v.d).length ρ' O' → Sx B (tDrop (tBM K "list" rAppend (tVar 2) (tCons (tVar 4) tNil))) ρ' O' E := fun od ws => by
          obtain ⟨I, i0, out, into⟩ := core od ws
          refine ⟨I, i0, fun j ρ' O' _ hI q hq => ?_, fun j k ρ' O' hk3 hI => ?_, fun ρ' O' hI => ?_⟩
          · obtain ⟨rs, rfl, _⟩ := out _ _ _ hI
            rw [List.mem_singleton] at hq
            rw [hq]
            exact List.mem_cons_of_mem _ (List.mem_cons_of_mem _ (List.mem_cons_self ..))
          · obtain ⟨rs, rfl, har, y5, y6, rfl⟩ := out _ _ _ hI
            rw [List.getElem?_map] at hk3
            cases hv : vs[j]? with
            | none => rw [hv] at hk3; cases hk3
            | some v =>
              rw [hv] at hk3
              cases hk3
              have hvc := hc v (List.mem_of_getElem? hv)
              have hvn := (hvc.prim hP).nz
              have hbp := hP.bd p hpm
              have hbv := hvc.bd hP
              have et : vs.take (j + 1) = vs.take j ++ [v] := by rw [List.take_add_one, hv]; rfl
              have hrl : rs.length ≤ 101 := by
                have h1 := har.len
                rw [List.length_take] at h1
                omega
              walk_at "sk"
              refine ⟨rfl, callK0 ⟨p, v, rfl, .inl (hbp.sm (by decide)), rfl, ?_⟩⟩
              walk_at "sk"
              rw [eqv_int]
              refine ⟨fun h => ?_, fun h => ?_⟩
              · have h0 : p.dot v = 0 := by simpa using h
                walk_at "sk"
                refine ⟨rfl, callK0 ⟨p, v, rfl, .inl (hbp.sm (by decide)), rfl, ?_⟩⟩
                walk_at "sk"
                refine ev_bm ?_
                walk_at "sk"
                refine ⟨.lst (List.mem_cons_self ..), ?_⟩
                walk_at "sk"
                refine ev_lst ?_
                walk_at "sk"
                refine ⟨rfl, callK0 ⟨Ps, v, p.cross v, 25, 12 + 25 + 1, rfl, hP, hne, hvn, step_perp (.inl rfl), hbv, hbp.cross hbv, by decide, by decide, rfl, fun r1 n1 b1 => ?_⟩⟩
                walk_at "sk"
                refine ⟨rfl, callK0 ⟨(p.cross v).l, rfl, by simp, rfl, ?_⟩⟩
                rw [V3.l_neg]
                walk_at "sk"
                refine ⟨rfl, callK0 ⟨Ps, v, (p.cross v).neg, 25, 12 + 25 + 1, rfl, hP, hne, hvn, step_perp (.inr rfl), hbv, (hbp.cross hbv).neg, by decide, by decide, rfl, fun r2 n2 b2 => ?_⟩⟩
                walk_at "sk"
                intro b
                walk_at "sk"
                refine om_extend (j := 1) (xs := [r1.d, r2.d]) rfl (List.mem_cons_self ..) (by rw [List.length_map]; simp only [List.length_cons, List.length_nil]; omega) ?_
                refine ⟨_, sub_cons (sub_refl _), into _ _ _ ⟨rs ++ [r1, r2], by rw [List.map_append]; rfl, ?_, _, _, rfl⟩⟩
                rw [et]
                exact har.add h0 n1 n2 (b1.mono (by decide)) (b2.mono (by decide))
              · have h0 : p.dot v ≠ 0 := by simpa using h
                walk_at "sk"
                refine ⟨_, sub_refl _, into _ _ _ ⟨rs, rfl, ?_, _, _, rfl⟩⟩
                rw [et]
                exact har.skip h0
          · obtain ⟨rs, rfl, har, y5, y6, rfl⟩ := out _ _ _ hI
            rw [List.length_map, List.take_length] at har
            walk_at "sk"
            refine ev_bm ?_
            walk_at "sk"
            refine ⟨.lps (List.mem_cons_of_mem _ (List.mem_cons_self ..)), ?_⟩
            walk_at "sk"
            refine om_appendP (j := 1) rfl (by omega) ?_
            exact fin od ws rs y5 y6 har
        rcases hX with ⟨_, rfl⟩ | ⟨od, ws, rfl⟩
        · exact .inl ⟨rfl, fun od ws => fin2 od ws⟩
        · exact .inr ⟨od, ws, by simp, fin2 od ws⟩
      have etk : Ps.take (i + 1) = Ps.take i ++ [p] := by rw [List.take_add_one, hp]; rfl
      have post : ∀ (r : Addr) (L0 : List V3) od ws (rs : List V3), L0ok Ps p L0 → AR Ps vs p L0 rs → ∃ O4, Sub O4 ((r, .lst (rs.map V3.d)) :: (qa, .lps (ps ++ [r])) :: (c, .fz od ws cs) :: raysC ps RS) ∧ ∃ ps RS X, O4 = (qa, .lps ps) :: (c, X) :: raysC ps RS ∧ ps.length = i + 1 ∧ RS.length = i + 1 ∧ ((i + 1 = 0 ∧ X = .dic cs) ∨ ∃ od ws, X = .fz od ws cs) ∧ (∀ pr ∈ (Ps.take (i + 1)).zip RS, ∃ L0, L0ok Ps pr.1 L0 ∧ AR Ps vs pr.1 L0 pr.2) ∧ i + 1 ≤ Ps.length := fun r L0 od ws rs hL0 har => by
        refine ⟨(qa, .lps (ps ++ [r])) :: (c, .fz od ws cs) :: raysC (ps ++ [r]) (RS ++ [rs]), ⟨[], ?_⟩, _, RS ++ [rs], _, rfl, by rw [List.length_append, hps]; rfl, by rw [List.length_append, hRS]; rfl, .inr ⟨od, ws, rfl⟩, fun pr hm => ?_, by omega⟩
        · rw [List.append_nil]
          unfold raysC
          rw [List.zipWith_append (by omega)]
          exact (List.perm_append_singleton _ _).symm
        · rw [etk, List.zip_append (by rw [List.length_take]; omega), List.mem_append] at hm
          rcases hm with hm | hm
          · exact hAR pr hm
          · simp only [List.zip_cons_cons, List.zip_nil_right, List.mem_singleton] at hm
            subst hm
            exact ⟨L0, hL0, har⟩
      walk_at "sk"
      refine ⟨fun h => ?_, fun h => ?_⟩
      · have h2 := of_decide_eq_true h
        rw [List.length_map] at h2
        have hL0 : L0ok Ps p [] := ⟨fun _ => rfl, fun e => by omega, (fun _ h => nomatch h), by decide⟩
        refine ev_lst ?_
        walk_at "sk"
        intro r
        refine tg_name ?_
        refine inner _ r [] hL0 fun od ws rs y5 y6 har => ?_
        obtain ⟨O4, sb, ps', RS', X', h1, h2, h3, h4, h5, h6⟩ := post r [] od ws rs hL0 har
        exact ⟨O4, sb, ps', RS', X', h1, h2, h3, h4, h5, h6, _, _, _, _, rfl⟩
      · have h2 := of_decide_eq_false h
        rw [List.length_map] at h2
        refine ev_lst ?_
        walk_at "sk"
        refine ⟨rfl, callK0 ⟨p, rfl, hP.nm p hpm, hP.bd p hpm, rfl, fun lr l1 l2 l3 => ?_⟩⟩
        have hL0 : L0ok Ps p [lr] := ⟨fun e => by omega, fun _ => by simp, fun r hr => by rw [List.mem_singleton] at hr; subst hr; exact ⟨by omega, l1, l2, l3⟩, Nat.le_refl _⟩
        walk_at "sk"
        intro r
        refine tg_name ?_
        refine inner _ r [lr] hL0 fun od ws rs y5 y6 har => ?_
        obtain ⟨O4, sb, ps', RS', X', h1, h2, h3, h4, h5, h6⟩ := post r [lr] od ws rs hL0 har
        exact ⟨O4, sb, ps', RS', X', h1, h2, h3, h4, h5, h6, _, _, _, _, rfl⟩
  · obtain ⟨ps, RS, X, rfl, hps, hRS, hX, hAR, hi, y1, y2, y3, y4, rfl⟩ := hI
    rw [List.length_map, List.length_map] at hps hRS hX hAR
    rw [List.take_length] at hAR
    obtain ⟨od, ws, rfl⟩ := hX.resolve_left fun h => hne (List.eq_nil_of_length_eq_zero h.1)
    walk_at "sk"
    exact ⟨_, sub_refl _, q qa ps RS od ws hps hRS hAR⟩
end
end Sk


/-! Ce4: all cells -/
namespace Sk
open PySem PySem.Spec PyProof.Rows L2
local macro_rules | `(tactic| walk_at "sk") => `(tactic| repeat' (first
  | ((with_reducible show Ev _ (tVar _) _ _ _); refine ev_var rfl ?_) | with_reducible refine ev_int ?_ | with_reducible refine ev_bl ?_ | with_reducible refine ev_non ?_ | with_reducible refine ev_str ?_ | with_reducible refine ev_ty ?_ | with_reducible refine ev_ref ?_
  | with_reducible refine ev_op ?_ | with_reducible refine ev_un ?_ | with_reducible refine ev_cb ?_ | with_reducible refine ea_cons ?_ | with_reducible refine ea_nil ?_
  | with_reducible refine ev_if ?_ | with_reducible refine ev_and ?_ | with_reducible refine ev_or ?_ | with_reducible refine ev_not ?_ | with_reducible refine ev_tup ?_ | with_reducible refine ev_call ?_
  | with_reducible refine sx_seq ?_ | with_reducible refine sx_asg ?_ | with_reducible refine tg_name ?_ | with_reducible refine sx_ret ?_ | with_reducible refine sx_next ?_ | with_reducible refine sx_drop ?_ | with_reducible refine sx_if ?_
  | with_reducible refine et_chain ?_ | with_reducible refine et_test ?_ | with_reducible refine et_B ?_ | with_reducible refine et_not ?_ | with_reducible refine et_and ?_ | with_reducible refine et_or ?_
  | with_reducible refine o_add ?_ | with_reducible refine o_sub ?_ | with_reducible refine o_lt ?_ | with_reducible refine o_le ?_ | with_reducible refine o_gt ?_ | with_reducible refine o_ge ?_
  | with_reducible refine o_neg ?_ | with_reducible refine o_subB ?_ | with_reducible refine o_mul ?_ ?_
  | ((with_reducible show Op2 _ (rIx _) _ _ _ _); refine o_ix (.tup _) rfl ?_)
  | ((with_reducible show Op2 _ (rEqD _) _ _ _ _); (first | refine o_eqD (.dat _) (.dat _) rfl rfl ?_ | refine o_eqD (.dat _) (.dat _) (by decide +kernel) (by decide +kernel) ?_))
  | ((with_reducible show Op2 _ (rNeD _) _ _ _ _); (first | refine o_neD (.dat _) (.dat _) rfl rfl ?_ | refine o_neD (.dat _) (.dat _) (by decide +kernel) (by decide +kernel) ?_))
  | ((with_reducible show Op2 _ (rIn _ false) _ _ _ _); refine o_in (.tup _) (by rfl) (by rfl) ?_) | ((with_reducible show Op2 _ (rIn _ true) _ _ _ _); refine o_notIn (.tup _) (by rfl) (by rfl) ?_)
  | ((with_reducible show OpC _ (rIsi _) _ _ _); (first | refine oc_isi (b := true) (by rfl) ?_ | refine oc_isi (b := false) (by rfl) ?_))
  | ((with_reducible show OpC _ _ _ _ _); refine oc_len (.tup _) ?_)
  | ((with_reducible show Tg _ (gTup _ _ _) _ _ _ _); (first | with_reducible refine tg_pair ?_ | refine tg_tup rfl ?_)) | ((with_reducible show Tgs _ (gCons _ _) _ _ _ _); refine tgs_cons ?_) | ((with_reducible show Tgs _ gNil _ _ _ _); refine tgs_nil ?_)
  | ((with_reducible show ∃ ds, alld _ ds ∧ _); (first
    | refine ⟨[_, _, _], ⟨rfl, rfl, rfl, trivial⟩, Nat.le_of_ble_eq_true rfl, ?_⟩ | refine ⟨[_, _], ⟨rfl, rfl, trivial⟩, Nat.le_of_ble_eq_true rfl, ?_⟩ | refine ⟨[_], ⟨rfl, trivial⟩, Nat.le_of_ble_eq_true rfl, ?_⟩ | refine ⟨[], trivial, Nat.le_of_ble_eq_true rfl, ?_⟩
    | refine ⟨[_, _, _, _], ⟨rfl, rfl, rfl, rfl, trivial⟩, Nat.le_of_ble_eq_true rfl, ?_⟩ | refine ⟨[_, _, _, _, _], ⟨rfl, rfl, rfl, rfl, rfl, trivial⟩, Nat.le_of_ble_eq_true rfl, ?_⟩ | refine ⟨[_, _, _, _, _, _], ⟨rfl, rfl, rfl, rfl, rfl, rfl, trivial⟩, Nat.le_of_ble_eq_true rfl, ?_⟩
    | refine ⟨[_, _, _, _, _, _, _], ⟨rfl, rfl, rfl, rfl, rfl, rfl, rfl, trivial⟩, Nat.le_of_ble_eq_true rfl, ?_⟩))
  | ((with_reducible show (_ = true → _) ∧ (_ = false → _)); (first | refine pickT rfl ?_ | refine pickF rfl ?_))
  | ((with_reducible show ∃ _, Kn.dat (PyData.bool _) = Kn.dat (PyData.bool _) ∧ _); refine ⟨_, rfl, ?_⟩)
  | ((with_reducible show ∃ _, Kn.dat _ = Kn.dat _ ∧ _); refine ⟨_, rfl, ?_⟩) | fail))

section
variable {P : Program} {w : World} {K : PySem.W.Frag} {mg : Str → Option Value} {base : Heap} {f : Addr} {fd : FuncData} {C : Addr}

def w_all_cells : WT := fun ks O Φ => ∃ Ps : List V3, ks = [.dat (.tuple (Ps.map V3.d))] ∧ Pl Ps ∧ O = [] ∧ ∀ p kvs, CellsOk Ps kvs → Φ (.ptr p) [(p, .dic kvs)]
theorem cells_nil : CellsOk [] [([], (⟨1, 0, 0⟩ : V3).d)] := by
  refine ⟨⟨by simp [keys], fun kv hm => ?_⟩, fun k => ?_⟩
  · rw [List.mem_singleton.mp hm]
    exact ⟨⟨1, 0, 0⟩, rfl, ⟨show V3.gN ⟨1, 0, 0⟩ = 1 by decide, ⟨by decide, by decide, by decide⟩⟩, rfl⟩
  · show k ∈ [[]] ↔ k = []
    simp
theorem at_end {α : Type} {R : List α} {x : α} : (R ++ [x])[R.length]? = some x := by simp
theorem set_end {α : Type} {R : List α} {x y : α} : (R ++ [x]).set R.length y = R ++ [y] := by simp
theorem corners_vs {Ps : List V3} {cs : Kv} (h : Corners Ps cs) : ∃ vs : List V3, keys cs = vs.map V3.l ∧ ∀ v, v ∈ vs ↔ Cor Ps v := by
  refine ⟨(keys cs).map ofL, ?_, fun v => ?_⟩
  · rw [List.map_map]
    conv => lhs; rw [← List.map_id (keys cs)]
    refine List.map_congr_left fun k hk => ?_
    obtain ⟨v, _, rfl⟩ := (h.ks k).mp hk
    rfl
  · rw [List.mem_map]
    constructor
    · rintro ⟨k, hk, rfl⟩
      obtain ⟨v, hv, rfl⟩ := (h.ks k).mp hk
      exact hv
    · intro hv
      exact ⟨v.l, (h.ks _).mpr ⟨v, hv, rfl⟩, rfl⟩
theorem flatR_take {Ps : List V3} {RS : List (List V3)} {i : Nat} {p : V3} {rs : List V3} (hp : Ps[i]? = some p) (hr : RS[i]? = some rs) : flatR (Ps.take (i + 1)) (RS.take (i + 1)) = flatR (Ps.take i) (RS.take i) ++ rs.map fun r => (p, r) := by
  have hl1 := (List.getElem?_eq_some_iff.mp hp).1
  have hl2 := (List.getElem?_eq_some_iff.mp hr).1
  unfold flatR
  rw [List.take_add_one, List.take_add_one, hp, hr]
  show ((Ps.take i ++ [p]).zip (RS.take i ++ [rs])).flatMap _ = _
  rw [List.zip_append (by rw [List.length_take, List.length_take]; omega), List.flatMap_append]
  simp
theorem mem_flatR {Ps : List V3} {RS : List (List V3)} {i j : Nat} {p r : V3} {rs : List V3} (hp : Ps[i]? = some p) (hr : RS[i]? = some rs) (hj : rs[j]? = some r) : (p, r) ∈ flatR Ps RS := by
  unfold flatR
  refine List.mem_flatMap.mpr ⟨(p, rs), List.mem_iff_getElem?.mpr ⟨i, ?_⟩, List.mem_map.mpr ⟨r, List.mem_of_getElem? hj, rfl⟩⟩
  rw [List.getElem?_zip_eq_some]
  exact ⟨hp, hr⟩
theorem mem_raysC {ps : List Addr} {RS : List (List V3)} {i : Nat} {a : Addr} {rs : List V3} (ha : ps[i]? = some a) (hr : RS[i]? = some rs) : (a, Cell.lst (rs.map V3.d)) ∈ raysC ps RS := by
  unfold raysC
  refine List.mem_iff_getElem?.mpr ⟨i, ?_⟩
  rw [List.getElem?_zipWith, ha, hr]
theorem cl_all_cells (T : Bt mg) (F : Df K mg "all_cells" s_all_cells f fd) (C_corner_rays : Cl P w K mg base "corner_rays" 4 1 w_corner_rays) (C_arc_rays : Cl P w K mg base "arc_rays" 4 2 w_arc_rays) (C_signs_at : Cl P w K mg base "signs_at" 2 2 w_signs_at) (C_near : Cl P w K mg base "near" 3 3 w_near) (C_negative : Cl P w K mg base "negative" 1 1 w_negative) : Cl P w K mg base "all_cells" 5 1 w_all_cells := by
  have nd := sc_all_cells.nd
  refine cl_of 4 1 F sc_all_cells rfl (fun _ _ _ _ _ _ us hl => match us, hl with | [_], _ => rfl) fun cdv A outer s H E hr => ⟨_, (pss_cons (ps_if (pt_cmpR (kEqD (K := K) hr.units) (pe_callB (kLen (K := K)) (by rfl) T.len_ (by decide +kernel) (pa_cons (pv 0) pa_nil)) pe_int (nomark _)) (pss_one (ps_ret (Nw.pe_dispT (hu_of hr) (pe_tup pa_nil) (pe_tup (pa_cons pe_int (pa_cons pe_int (pa_cons pe_int pa_nil))))))) pss_nil)
      (pss_cons (ps_par (i := 1) (j := 2) (by rfl) nd rfl rfl (by decide) rfl rfl (pa_cons (pe_cl C_corner_rays (hr.mono (by decide)) (by rfl) (pa_cons (pv 0) pa_nil)) (pa_cons pe_dnewT pa_nil)) (by rfl))
      (pss_cons (ps_for PassesOwn.never rfl (kZipTL (K := K) (by rfl) T.zip_ (pa_cons (pv 0) (pa_cons (pe_cl C_arc_rays (hr.mono (by decide)) (by rfl) (pa_cons (pv 0) (pa_cons (pv 1) pa_nil))) pa_nil))) (kgTup (K := K) (n := 2) rfl (pgs_cons (pg_name (i := 3) nd rfl (Or.inl rfl)) (pgs_cons (pg_name (i := 4) nd rfl (Or.inl rfl)) pgs_nil))) (pss_one (ps_for PassesOwn.never rfl (kList (K := K) (pv 4)) (pg_name (i := 5) nd rfl (Or.inl rfl)) (pss_cons (ps_set (i := 6) nd rfl (Or.inl rfl) (pe_cl C_signs_at (hr.mono (by decide)) (by rfl) (pa_cons (pv 0) (pa_cons (pv 5) pa_nil))))
      (pss_one (ps_if (pt_cmp (pc_dnotin (hu_of hr) (pv 6) (pv 2))) (pss_cons (ps_dput (hu_of hr) (pv 2) (pv 6) (pv 5) rfl)
      (pss_one (ps_for PassesOwn.never rfl (kTup (K := K) (pe_tup (pa_cons (pv 3) (pa_cons (pe_cl C_negative (hr.mono (by decide)) (by rfl) (pa_cons (pv 3) pa_nil)) pa_nil)))) (pg_name (i := 7) nd rfl (Or.inl rfl)) (pss_cons (ps_set (i := 8) nd rfl (Or.inl rfl) (pe_cl C_near (hr.mono (by decide)) (by rfl) (pa_cons (pv 0) (pa_cons (pv 5) (pa_cons (pv 7) pa_nil)))))
      (pss_one (ps_expr (kBM (K := K) PySem.F.plainAttrs_dict PySem.F.slot_dict_setdefault PySem.F.type_dict_setdefault (Nw.mt_setdefT (hu_of hr)) (pv 2) (pa_cons (pe_cl C_signs_at (hr.mono (by decide)) (by rfl) (pa_cons (pv 0) (pa_cons (pv 8) pa_nil))) (pa_cons (pv 8) pa_nil))))))))) pss_nil))))))
      (pss_cons (ps_for PassesOwn.never rfl (Nw.pi_keysF (pv 1)) (pg_name (i := 5) nd rfl (Or.inl rfl)) (pss_one (ps_dput (hu_of hr) (pv 2) (pe_cl C_signs_at (hr.mono (by decide)) (by rfl) (pa_cons (pv 0) (pa_cons (pv 5) pa_nil))) (pv 5) rfl)))
      (pss_one (ps_ret (pv 2))))))), ?_⟩
  intro B ks O Φ hl ⟨Ps, e1, hP, e2, q⟩
  subst e1 e2
  have h5 := hP.le
  have hsm : ∀ p ∈ Ps, p.Sm := fun p hp => (hP.bd p hp).sm (by decide)
  walk_at "sk"
  rw [eqv_int, List.length_map]
  refine ⟨fun h => ?_, fun h => ?_⟩
  · have h0 : Ps = [] := List.eq_nil_of_length_eq_zero (by have := beq_iff_eq.mp h; omega)
    subst h0
    walk_at "sk"
    refine ev_disp fun r => ?_
    walk_at "sk"
    refine ⟨[], _, 0, rfl, rfl, rfl, ?_⟩
    exact ⟨_, sub_refl _, q r _ cells_nil⟩
  · have hne : Ps ≠ [] := fun e => absurd h (by rw [e]; decide)
    walk_at "sk"
    refine sx_par2 (by decide) ?_
    walk_at "sk"
    refine ⟨rfl, callK0 ⟨Ps, rfl, hP, rfl, fun c cs hcs => ?_⟩⟩
    walk_at "sk"
    refine ev_dnew fun r => ?_
    walk_at "sk"
    obtain ⟨vs, hk, hvs⟩ := corners_vs hcs
    have hcl := hcs.len h5
    have hvl : cs.length = vs.length := by
      have := congrArg List.length hk
      unfold keys at this
      rw [List.length_map, List.length_map] at this
      exact this
    refine ⟨_, _, rfl, ?_⟩
    refine sx_seq ?_
    refine sx_for (ei_zipTL ?_)
    walk_at "sk"
    refine ⟨rfl, [(c, .dic cs)], [(r, .dic [])], .swap .., Ps, vs, cs, c, rfl, hP, hne, hk, fun v hv => (hvs v).mp hv, by omega, rfl, fun qa ps RS od ws hps hRS hAR => ?_⟩
    have hdone := done_of hP hvs hRS hAR
    walk_at "sk"
    obtain ⟨REST, hREST⟩ : ∃ R, ((qa, Cell.lps ps) :: (c, .fz od ws cs) :: raysC ps RS) = R := ⟨_, rfl⟩
    have hRq : (qa, Cell.lps ps) ∈ REST := by rw [← hREST]; exact List.mem_cons_self ..
    have hRc : (c, Cell.fz od ws cs) ∈ REST := by rw [← hREST]; exact List.mem_cons_of_mem _ (List.mem_cons_self ..)
    have hRr : ∀ {i : Nat} {a : Addr} {rs : List V3}, ps[i]? = some a → RS[i]? = some rs → (a, Cell.lst (rs.map V3.d)) ∈ REST := fun h1 h2 => by rw [← hREST]; exact List.mem_cons_of_mem _ (List.mem_cons_of_mem _ (mem_raysC h1 h2))
    rw [hREST]
    refine ⟨_, qa, ps, rfl, List.mem_append_left _ hRq, by rw [List.length_map]; omega, ?_⟩
    refine ⟨fun i ρ' O' => ∃ kvs, O' = REST ++ [(r, .dic kvs)] ∧ Found Ps (flatR (Ps.take i) (RS.take i)) kvs ∧ i ≤ Ps.length ∧ ∃ y3 y4 y5 y6 y7 y8, ρ' = [some (.dat (.tuple (Ps.map V3.d))), some (.ptr c), some (.ptr r), y3, y4, y5, y6, y7, y8],
      ⟨[], rfl, by simpa [flatR] using Found.nil, Nat.zero_le _, _, _, _, _, _, _, rfl⟩, fun i ρ' O' _ hI q hq => ?_, fun i k ρ' O' hk2 hI => ?_, fun ρ' O' hI => ?_⟩
    · obtain ⟨kvs, rfl, _⟩ := hI
      rw [List.mem_singleton] at hq
      rw [hq]
      exact List.mem_append_left _ hRq
    · obtain ⟨kvs, rfl, hF, hi, y3, y4, y5, y6, y7, y8, rfl⟩ := hI
      rw [List.getElem?_zipWith, List.getElem?_map] at hk2
      cases hp : Ps[i]? with
      | none => rw [hp] at hk2; cases hk2
      | some p =>
        cases ha : ps[i]? with
        | none => rw [hp, ha] at hk2; cases hk2
        | some a =>
          rw [hp, ha] at hk2
          cases hk2
          have hpm := List.mem_of_getElem? hp
          have hil := (List.getElem?_eq_some_iff.mp hp).1
          obtain ⟨rs, hrs⟩ : ∃ rs, RS[i]? = some rs := ⟨RS[i]'(by omega), List.getElem?_eq_getElem (by omega)⟩
          walk_at "sk"
          refine sx_for (ei_list ?_)
          walk_at "sk"
          refine ⟨a, rs.map V3.d, rfl, List.mem_append_left _ (hRr ha hrs), ?_⟩
          refine ⟨fun j ρ' O' => ∃ kvs, O' = REST ++ [(r, .dic kvs)] ∧ Found Ps (flatR (Ps.take i) (RS.take i) ++ (rs.take j).map fun x => (p, x)) kvs ∧ ∃ y5 y6 y7 y8, ρ' = [some (.dat (.tuple (Ps.map V3.d))), some (.ptr c), some (.ptr r), some (.dat p.d), some (.ptr a), y5, y6, y7, y8],
            ⟨kvs, rfl, by simpa using hF, _, _, _, _, rfl⟩, fun j ρ' O' _ hI q hq => ?_, fun j k ρ' O' hk3 hI => ?_, fun ρ' O' hI => ?_⟩
          · obtain ⟨kvs, rfl, _⟩ := hI
            rw [List.mem_singleton] at hq
            rw [hq]
            exact List.mem_append_left _ (hRr ha hrs)
          · obtain ⟨kvs, rfl, hF, y5, y6, y7, y8, rfl⟩ := hI
            rw [List.getElem?_map, List.getElem?_map] at hk3
            cases hv : rs[j]? with
            | none => rw [hv] at hk3; cases hk3
            | some v =>
              rw [hv] at hk3
              cases hk3
              have h1 : Ray1 Ps p v := hdone.ray (p, v) (mem_flatR hp hrs hv)
              have et : (rs.take (j + 1)).map (fun x => (p, x)) = (rs.take j).map (fun x => (p, x)) ++ [(p, v)] := by rw [List.take_add_one, hv, List.map_append]; rfl
              have hrv : RayOk v := ⟨h1.pr, h1.bd.mono (by decide)⟩
              walk_at "sk"
              refine ⟨rfl, callK0 ⟨Ps, v, rfl, hsm, by omega, rfl, ?_⟩⟩
              walk_at "sk"
              refine ev_dnotin ?_
              walk_at "sk"
              refine ⟨kvs, sg Ps v, .dic (by simp), rfl, ?_⟩
              walk_at "sk"
              by_cases hin : sg Ps v ∈ keys kvs
              · refine pickF (by rw [look_isSome.mpr hin]; rfl) ?_
                walk_at "sk"
                refine ⟨_, sub_refl _, kvs, rfl, ?_, _, _, _, _, rfl⟩
                rw [et, ← List.append_assoc]
                exact hF.old hin
              · refine pickT (by rw [Bool.eq_false_iff.mpr (fun e => hin (look_isSome.mp e))]; rfl) ?_
                walk_at "sk"
                refine sx_dput ?_
                walk_at "sk"
                refine ⟨r, kvs, sg Ps v, REST.length, rfl, at_end, rfl, by have := hF.rc.few h5; omega, ?_⟩
                simp only [List.nil_append, set_end]
                have hK0 : RC Ps (put kvs (sg Ps v) v.d) := hF.rc.put hrv
                refine sx_for (ei_tup ?_)
                walk_at "sk"
                refine ⟨rfl, callK0 ⟨p.l, rfl, by simp, rfl, ?_⟩⟩
                rw [V3.l_neg]
                walk_at "sk"
                refine ⟨fun m ρ' O' => ∃ kvs', O' = REST ++ [(r, .dic kvs')] ∧ RC Ps kvs' ∧ ((m = 0 ∧ kvs' = put kvs (sg Ps v) v.d) ∨ (m = 1 ∧ ∃ b1, Near Ps v p b1 ∧ RayOk b1 ∧ kvs' = putD (put kvs (sg Ps v) v.d) (sg Ps b1) b1.d) ∨
                    (m = 2 ∧ ∃ b1 b2, Near Ps v p b1 ∧ RayOk b1 ∧ Near Ps v p.neg b2 ∧ RayOk b2 ∧ kvs' = putD (putD (put kvs (sg Ps v) v.d) (sg Ps b1) b1.d) (sg Ps b2) b2.d)) ∧ ∃ y7 y8, ρ' = [some (.dat (.tuple (Ps.map V3.d))), some (.ptr c), some (.ptr r), some (.dat p.d), some (.ptr a), some (.dat v.d), some (.dat (tupI (sg Ps v))), y7, y8],
                  ⟨_, rfl, hK0, .inl ⟨rfl, rfl⟩, _, _, rfl⟩, (fun _ _ _ _ _ q hq => nomatch hq), fun m k ρ' O' hk4 hI => ?_, fun ρ' O' hI => ?_⟩
                · obtain ⟨kvs', rfl, hrc, hm, y7, y8, rfl⟩ := hI
                  -- one step, towards n
                  have one : ∀ n : V3, Opn p n → k = .dat n.d → ∀ Ψ : Sl → Cs → Prop, (∀ b, Near Ps v n b → RayOk b → ∀ y7 y8, Ψ [some (.dat (.tuple (Ps.map V3.d))), some (.ptr c), some (.ptr r), some (.dat p.d), some (.ptr a), some (.dat v.d), some (.dat (tupI (sg Ps v))), y7, y8] (REST ++ [(r, .dic (putD kvs' (sg Ps b) b.d))])) → ∀ E : AE, E.nx = Ψ →
                      Tg B (gName 7) k [some (.dat (.tuple (Ps.map V3.d))), some (.ptr c), some (.ptr r), some (.dat p.d), some (.ptr a), some (.dat v.d), some (.dat (tupI (sg Ps v))), y7, y8] (REST ++ [(r, .dic kvs')]) fun ρ2 O2 => Sx B (tSeq (tAsg (tCall (spW 3 w_near) [] E0 (tCons (tVar 0) (tCons (tVar 5) (tCons (tVar 7) tNil)))) (gName 8)) (tDrop (tBM K "dict" Nw.rSetdT (tVar 2) (tCons (tCall (spW 2 w_signs_at) [] E0 (tCons (tVar 0) (tCons (tVar 8) tNil))) (tCons (tVar 8) tNil))))) ρ2 O2 E := fun n hn ek Ψ hΨ E hE => by
                    subst ek
                    have hbn : n.Bd 12 := by
                      rcases hn with rfl | rfl
                      · exact hP.bd _ hpm
                      · exact (hP.bd _ hpm).neg
                    walk_at "sk"
                    refine ⟨rfl, callK0 ⟨Ps, v, n, 100, 12, rfl, hP, hne, h1.pr.nz, h1.perp hn, h1.bd, hbn, by decide, by decide, rfl, fun b hnb hbb => ?_⟩⟩
                    have hbo : RayOk b := ⟨hnb.prim h1.pr.nz (h1.perp hn), hbb.mono (by decide)⟩
                    walk_at "sk"
                    refine ev_bmD ?_
                    walk_at "sk"
                    refine ⟨⟨r, kvs', rfl, by simp⟩, ?_⟩
                    walk_at "sk"
                    refine ⟨rfl, callK0 ⟨Ps, b, rfl, hsm, by omega, rfl, ?_⟩⟩
                    walk_at "sk"
                    refine om_setdef (j := REST.length) at_end (by have := hrc.few h5; omega) fun d' => ?_
                    simp only [List.nil_append, set_end]
                    rw [hE]
                    exact hΨ b hnb hbo _ _
                  rcases hm with ⟨rfl, rfl⟩ | ⟨rfl, b1, n1, k1, rfl⟩ | ⟨rfl, _⟩
                  · refine one p (.inl rfl) (by cases hk4; rfl) _ (fun b hnb hbo y7 y8 => ?_) _ rfl
                    exact ⟨_, sub_refl _, _, rfl, hrc.putD hbo, .inr (.inl ⟨rfl, b, hnb, hbo, rfl⟩), _, _, rfl⟩
                  · refine one p.neg (.inr rfl) (by cases hk4; rfl) _ (fun b hnb hbo y7 y8 => ?_) _ rfl
                    exact ⟨_, sub_refl _, _, rfl, hrc.putD hbo, .inr (.inr ⟨rfl, b1, b, n1, k1, hnb, hbo, rfl⟩), _, _, rfl⟩
                  · exact nomatch hk4
                · obtain ⟨kvs', rfl, hrc, hm, y7, y8, rfl⟩ := hI
                  rcases hm with ⟨e, _⟩ | ⟨e, _⟩ | ⟨_, b1, b2, n1, k1, n2, k2, rfl⟩
                  · exact nomatch e
                  · exact nomatch e
                  · refine ⟨_, sub_refl _, _, rfl, ?_, _, _, _, _, rfl⟩
                    rw [et, ← List.append_assoc]
                    exact hF.new hP h1 n1 n2 k1 k2
          · obtain ⟨kvs, rfl, hF, y5, y6, y7, y8, rfl⟩ := hI
            rw [List.length_map, List.length_map, List.take_length] at hF
            refine ⟨_, sub_refl _, kvs, rfl, ?_, by omega, _, _, _, _, _, _, rfl⟩
            rw [flatR_take hp hrs]
            exact hF
    · obtain ⟨kvs, rfl, hF, hi, y3, y4, y5, y6, y7, y8, rfl⟩ := hI
      have hlen : (List.zipWith (fun d q => Kn.pair (.dat d) (.ptr q)) (Ps.map V3.d) ps).length = Ps.length := by rw [List.length_zipWith, List.length_map]; omega
      rw [hlen, List.take_length, List.take_of_length_le (by omega)] at hF
      walk_at "sk"
      refine sx_for (ei_keys ?_)
      walk_at "sk"
      refine ⟨c, cs, 0, rfl, .inr ⟨od, ws, List.mem_append_left _ hRc, ?_⟩⟩
      have items : (cs.map fun kv => Kn.dat (tupI kv.1)) = vs.map fun v => Kn.dat v.d := by
        have e : (cs.map fun kv => Kn.dat (tupI kv.1)) = (keys cs).map fun k => Kn.dat (tupI k) := by unfold keys; rw [List.map_map]; rfl
        rw [e, hk, List.map_map]; rfl
      rw [items]
      have hrok : ∀ v ∈ vs, RayOk v := fun v hv => ((hvs v).mp hv).rayOk hP
      refine ⟨fun j ρ' O' => O' = REST ++ [(r, .dic (putAll Ps (vs.take j) kvs))] ∧ ∃ y3 y4 y5 y6 y7 y8, ρ' = [some (.dat (.tuple (Ps.map V3.d))), some (.ptr c), some (.ptr r), y3, y4, y5, y6, y7, y8],
        ⟨rfl, _, _, _, _, _, _, rfl⟩, fun j ρ' O' _ hI q hq => ?_, fun j k ρ' O' hk3 hI => ?_, fun ρ' O' hI => ?_⟩
      · obtain ⟨rfl, _⟩ := hI
        rw [List.mem_singleton] at hq
        rw [hq]
        exact List.mem_append_left _ hRc
      · obtain ⟨rfl, y3, y4, y5, y6, y7, y8, rfl⟩ := hI
        rw [List.getElem?_map] at hk3
        cases hv : vs[j]? with
        | none => rw [hv] at hk3; cases hk3
        | some v =>
          rw [hv] at hk3
          cases hk3
          walk_at "sk"
          refine sx_dput ?_
          walk_at "sk"
          refine ⟨rfl, callK0 ⟨Ps, v, rfl, hsm, by omega, rfl, ?_⟩⟩
          refine ⟨r, putAll Ps (vs.take j) kvs, sg Ps v, REST.length, rfl, at_end, rfl, by have := (putAll_rc hF.rc fun u hu => hrok u (List.mem_of_mem_take hu)).few h5 (kvs := putAll Ps (vs.take j) kvs); omega, ?_⟩
          show ∃ O4, _
          refine ⟨REST ++ [(r, .dic (putAll Ps (vs.take (j + 1)) kvs))], ?_, rfl, _, _, _, _, _, _, rfl⟩
          rw [List.take_add_one, hv]
          show Sub (REST ++ [(r, .dic (putAll Ps (vs.take j ++ [v]) kvs))]) _
          rw [putAll_snoc]
          rw [show (([] : Cs) ++ (REST ++ [(r, Cell.dic (putAll Ps (vs.take j) kvs))])) = REST ++ [(r, Cell.dic (putAll Ps (vs.take j) kvs))] from rfl, set_end]
          exact sub_refl _
      · obtain ⟨rfl, y3, y4, y5, y6, y7, y8, rfl⟩ := hI
        rw [List.length_map, List.take_length]
        walk_at "sk"
        refine ⟨[(r, .dic (putAll Ps vs kvs))], ⟨REST, List.perm_append_comm⟩, q r _ (cells_of_found hP hne hF hdone hvs)⟩
end
end Sk


/-! Ce5: a lot's cells -/
namespace Sk
open PySem PySem.Spec PyProof.Rows L2
local macro_rules | `(tactic| walk_at "sk") => `(tactic| repeat' (first
  | ((with_reducible show Ev _ (tVar _) _ _ _); refine ev_var rfl ?_) | with_reducible refine ev_int ?_ | with_reducible refine ev_bl ?_ | with_reducible refine ev_non ?_ | with_reducible refine ev_str ?_ | with_reducible refine ev_ty ?_ | with_reducible refine ev_ref ?_
  | with_reducible refine ev_op ?_ | with_reducible refine ev_un ?_ | with_reducible refine ev_cb ?_ | with_reducible refine ea_cons ?_ | with_reducible refine ea_nil ?_
  | with_reducible refine ev_if ?_ | with_reducible refine ev_and ?_ | with_reducible refine ev_or ?_ | with_reducible refine ev_not ?_ | with_reducible refine ev_tup ?_ | with_reducible refine ev_call ?_
  | with_reducible refine sx_seq ?_ | with_reducible refine sx_asg ?_ | with_reducible refine tg_name ?_ | with_reducible refine sx_ret ?_ | with_reducible refine sx_next ?_ | with_reducible refine sx_drop ?_ | with_reducible refine sx_if ?_
  | with_reducible refine et_chain ?_ | with_reducible refine et_test ?_ | with_reducible refine et_B ?_ | with_reducible refine et_not ?_ | with_reducible refine et_and ?_ | with_reducible refine et_or ?_
  | with_reducible refine o_add ?_ | with_reducible refine o_sub ?_ | with_reducible refine o_lt ?_ | with_reducible refine o_le ?_ | with_reducible refine o_gt ?_ | with_reducible refine o_ge ?_
  | with_reducible refine o_neg ?_ | with_reducible refine o_subB ?_ | with_reducible refine o_mul ?_ ?_
  | ((with_reducible show Op2 _ (rIx _) _ _ _ _); refine o_ix (.tup _) rfl ?_)
  | ((with_reducible show Op2 _ (rEqD _) _ _ _ _); (first | refine o_eqD (.dat _) (.dat _) rfl rfl ?_ | refine o_eqD (.dat _) (.dat _) (by decide +kernel) (by decide +kernel) ?_))
  | ((with_reducible show Op2 _ (rNeD _) _ _ _ _); (first | refine o_neD (.dat _) (.dat _) rfl rfl ?_ | refine o_neD (.dat _) (.dat _) (by decide +kernel) (by decide +kernel) ?_))
  | ((with_reducible show Op2 _ (rIn _ false) _ _ _ _); refine o_in (.tup _) (by rfl) (by rfl) ?_) | ((with_reducible show Op2 _ (rIn _ true) _ _ _ _); refine o_notIn (.tup _) (by rfl) (by rfl) ?_)
  | ((with_reducible show OpC _ (rIsi _) _ _ _); (first | refine oc_isi (b := true) (by rfl) ?_ | refine oc_isi (b := false) (by rfl) ?_))
  | ((with_reducible show OpC _ _ _ _ _); refine oc_len (.tup _) ?_)
  | ((with_reducible show Tg _ (gTup _ _ _) _ _ _ _); (first | with_reducible refine tg_pair ?_ | refine tg_tup rfl ?_)) | ((with_reducible show Tgs _ (gCons _ _) _ _ _ _); refine tgs_cons ?_) | ((with_reducible show Tgs _ gNil _ _ _ _); refine tgs_nil ?_)
  | ((with_reducible show ∃ ds, alld _ ds ∧ _); (first
    | refine ⟨[_, _, _], ⟨rfl, rfl, rfl, trivial⟩, Nat.le_of_ble_eq_true rfl, ?_⟩ | refine ⟨[_, _], ⟨rfl, rfl, trivial⟩, Nat.le_of_ble_eq_true rfl, ?_⟩ | refine ⟨[_], ⟨rfl, trivial⟩, Nat.le_of_ble_eq_true rfl, ?_⟩ | refine ⟨[], trivial, Nat.le_of_ble_eq_true rfl, ?_⟩
    | refine ⟨[_, _, _, _], ⟨rfl, rfl, rfl, rfl, trivial⟩, Nat.le_of_ble_eq_true rfl, ?_⟩ | refine ⟨[_, _, _, _, _], ⟨rfl, rfl, rfl, rfl, rfl, trivial⟩, Nat.le_of_ble_eq_true rfl, ?_⟩ | refine ⟨[_, _, _, _, _, _], ⟨rfl, rfl, rfl, rfl, rfl, rfl, trivial⟩, Nat.le_of_ble_eq_true rfl, ?_⟩
    | refine ⟨[_, _, _, _, _, _, _], ⟨rfl, rfl, rfl, rfl, rfl, rfl, rfl, trivial⟩, Nat.le_of_ble_eq_true rfl, ?_⟩))
  | ((with_reducible show (_ = true → _) ∧ (_ = false → _)); (first | refine pickT rfl ?_ | refine pickF rfl ?_))
  | ((with_reducible show ∃ _, Kn.dat (PyData.bool _) = Kn.dat (PyData.bool _) ∧ _); refine ⟨_, rfl, ?_⟩)
  | ((with_reducible show ∃ _, Kn.dat _ = Kn.dat _ ∧ _); refine ⟨_, rfl, ?_⟩) | fail))

section
variable {P : Program} {w : World} {K : PySem.W.Frag} {mg : Str → Option Value} {base : Heap} {f : Addr} {fd : FuncData} {C : Addr}

def zI (k : Rw) : Nat := (k.filter fun x => x == 0).length
def w_zeros_in : WT := fun ks O Φ => ∃ k : Rw, ks = [.dat (tupI k)] ∧ k.length < 100000 ∧ O = [] ∧ Φ (.dat (.int (zI k : Nat))) []
theorem fm_filter (k : Rw) : (k.filterMap fun n => if n == 0 then some (PyData.int n) else none) = (k.filter fun x => x == 0).map PyData.int := by
  induction k with
  | nil => rfl
  | cons n k ih =>
    by_cases h : n == 0
    · simp only [List.filterMap_cons, List.filter_cons, h, if_true, List.map_cons, ih]
    · simp only [List.filterMap_cons, List.filter_cons, h, if_false, ih]; rfl
theorem cl_zeros_in (T : Bt mg) (F : Df K mg "zeros_in" s_zeros_in f fd) : Cl P w K mg base "zeros_in" 1 1 w_zeros_in := by
  have nd := sc_zeros_in.nd
  refine cl_of 0 1 F sc_zeros_in rfl (fun _ _ _ _ _ _ us hl => match us, hl with | [_], _ => rfl) fun cdv A outer s H E hr => ⟨_, (pss_one (ps_ret (pe_callB (kLen (K := K)) (by rfl) T.len_ (by decide +kernel) (pa_cons (pe_lc (own := [("each", 1)]) (g := gName 1) (by rfl) nd (kTup (K := K) (pv 0)) (blkOk_by (own := [("each", 1)]) (N := N_zeros_in) (sc := defScope s_zeros_in) (by decide +kernel)) (fun _ _ _ _ _ => (pg_name (i := 1) nd rfl (Or.inl rfl))) (fun _ _ _ _ _ => (pts_one (pt_cmpR (kEqD (K := K) hr.units) (pv 1) pe_int (nomark _)))) (fun _ _ _ _ _ => (pv 1))) pa_nil)))), ?_⟩
  intro B ks O Φ hl ⟨k, e1, hz, e2, q⟩
  subst e1 e2
  walk_at "sk"
  refine ev_lcF (ei_tup ?_) (own_name (by decide))
  walk_at "sk"
  refine ⟨Int, k, fun n => .dat (.int n), fun n => if n == 0 then some (.int n) else none, by rw [List.map_map]; rfl, hz, (fun q hq => nomatch hq), fun n hn => ?_, fun r => ?_⟩
  · refine tg_name ?_
    walk_at "sk"
    rw [eqv_int]
    refine ⟨fun h => ?_, fun h => ⟨by show (if (n == 0) = true then _ else _) = _; rw [h]; rfl, sub_refl _⟩⟩
    walk_at "sk"
    refine ⟨by show (if (n == 0) = true then _ else _) = _; rw [h]; rfl, sub_refl _⟩
  · walk_at "sk"
    refine oc_len (.lst (List.mem_cons_self ..)) ?_
    rw [fm_filter, List.length_map]
    exact ⟨_, sub_nil _, q⟩

def liesB (a b : Rw) : Bool := (List.zipWith (fun m e => (0 == m || e == m)) a b).all id
def w_lies_at : WT := fun ks O Φ => ∃ a b : Rw, ks = [.dat (tupI a), .dat (tupI b)] ∧ a.length = b.length ∧ a.length < 100000 ∧ O = [] ∧ Φ (.dat (.bool (liesB a b))) []
theorem cl_lies_at (T : Bt mg) (F : Df K mg "lies_at" s_lies_at f fd) : Cl P w K mg base "lies_at" 1 2 w_lies_at := by
  have nd := sc_lies_at.nd
  refine cl_of 0 2 F sc_lies_at rfl (fun _ _ _ _ _ _ us hl => match us, hl with | [_, _], _ => rfl) fun cdv A outer s H E hr => ⟨_, (pss_one (ps_ret (pe_callB (kAll (K := K) rfl) (by rfl) T.all_ (by decide +kernel) (pa_cons (pe_lc (own := [("mine", 2), ("each", 3)]) (by rfl) nd (kZipA (K := K) (by rfl) T.zip_ (pa_cons (pv 0) (pa_cons (pv 1) pa_nil))) (blkOk_by (own := [("mine", 2), ("each", 3)]) (N := N_lies_at) (sc := defScope s_lies_at) (by decide +kernel)) (fun _ _ _ _ _ => (kgTup (K := K) (n := 2) rfl (pgs_cons (pg_name (i := 2) nd rfl (Or.inl rfl)) (pgs_cons (pg_name (i := 3) nd rfl (Or.inl rfl)) pgs_nil)))) (fun _ _ _ _ _ => pts_nil) (fun _ _ _ _ _ => (pe_cmpR (kIn (K := K)) (pv 2) (pe_tup (pa_cons pe_int (pa_cons (pv 3) pa_nil))) (by with_unfolding_all rfl)))) pa_nil)))), ?_⟩
  intro B ks O Φ hl ⟨a, b, e1, hab, hz, e2, q⟩
  subst e1 e2
  walk_at "sk"
  refine ev_lcF (ei_zipT ?_) (own_tup2 (by decide) (by decide))
  walk_at "sk"
  refine ⟨a.map PyData.int, b.map PyData.int, rfl, by rw [List.length_map, List.length_map]; exact hab, Int × Int, a.zip b, fun x => .dat (.tuple [.int x.1, .int x.2]), fun x => some (.bool (0 == x.1 || x.2 == x.1)), ?_, by rw [List.length_zip]; omega, (fun q hq => nomatch hq), fun x hx => ?_, fun r => ?_⟩
  · unfold zipD
    rw [List.zipWith_map, List.map_zipWith, ← List.map_uncurry_zip_eq_zipWith]
    rfl
  · walk_at "sk"
    refine et_yes ⟨fun _ => ?_, fun e => nomatch e⟩
    walk_at "sk"
    refine ⟨?_, sub_refl _⟩
    simp only [List.any_cons, List.any_nil, Bool.or_false, eqv_int]
  · walk_at "sk"
    have eb : ((a.zip b).filterMap fun x => some (PyData.bool (0 == x.1 || x.2 == x.1))) = (List.zipWith (fun m e => (0 == m || e == m)) a b).map PyData.bool := by
      rw [fm_some, List.map_zipWith, ← List.map_uncurry_zip_eq_zipWith]
      rfl
    refine oc_all (bs := List.zipWith (fun m e => (0 == m || e == m)) a b) (by rw [← eb]; exact List.mem_cons_self ..) ⟨_, sub_nil _, q⟩

/-- a lot's cells: the told ones, in order -/
structure LC (t : Tr) (kvs : Kv) : Prop where
  ks : ∃ L, SC t.plV L ∧ keys kvs = L.filter (t.hK t.plV)
  ray : ∀ kv ∈ kvs, ∃ r : V3, kv.2 = r.d ∧ RayOk r ∧ kv.1 = sg t.plV r
theorem SC.facts {Ps : List V3} {L : List Rw} (h : SC Ps L) : L.Nodup ∧ ∀ k ∈ L, ∃ r, RayOk r ∧ k = sg Ps r := by
  obtain ⟨kvs, c, rfl⟩ := h
  refine ⟨sortI_nodup c.rc.nd, fun k hk => ?_⟩
  obtain ⟨r, _, h1, h2⟩ := c.rc.at (mem_sortI.mp hk)
  exact ⟨r, h1, h2⟩
theorem SC.few {Ps : List V3} {L : List Rw} (h : SC Ps L) (h5 : Ps.length ≤ 5) : L.length ≤ 243 := by
  obtain ⟨h1, h2⟩ := h.facts
  exact rows_few h5 h1 fun k hk => let ⟨r, _, e⟩ := h2 k hk; ⟨r, e⟩
theorem rows_one {Ps : List V3} {ks : List Rw} (hn : ks.Nodup) (h : ∀ k ∈ ks, ∃ r, k = sg Ps r) : Ps.length ≠ 0 ∨ ks.length ≤ 1 := by
  by_cases h0 : Ps.length = 0
  · refine .inr ?_
    have e : Ps = [] := List.eq_nil_of_length_eq_zero h0
    subst e
    refine nodup_le (m := [[]]) hn fun k hk => ?_
    obtain ⟨r, rfl⟩ := h k hk
    simp [sg]
  · exact .inl h0
def w_lot_cells (C : Addr) : WT := fun ks O Φ => ∃ (t : Tr) (p : Addr), ks = [.ptr p, .dat (.tuple (t.plV.map V3.d))] ∧ TOk 8 t ∧ Pl t.plV ∧ O = [(p, .ins C (lotF t))] ∧ ∀ r kvs, LC t kvs → Φ (.ptr r) [(r, .dic kvs), (p, .ins C (lotF t))]
theorem cl_lot_cells (T : Bt mg) (L : LotC P w K mg C) (F : Df K mg "lot_cells" s_lot_cells f fd) (C_all_cells : Cl P w K mg base "all_cells" 5 1 w_all_cells) (C_has_signs : Cl P w K mg base "has_signs" 13 3 (w_has_signs C)) : Cl P w K mg base "lot_cells" 14 2 (w_lot_cells C) := by
  have nd := sc_lot_cells.nd
  refine cl_of 13 2 F sc_lot_cells rfl (fun _ _ _ _ _ _ us hl => match us, hl with | [_, _], _ => rfl) fun cdv A outer s H E hr => ⟨_, (pss_cons (ps_set (i := 2) nd rfl (Or.inr rfl) (pe_cl C_all_cells (hr.mono (by decide)) (by rfl) (pa_cons (pv 1) pa_nil)))
      (pss_one (ps_ret (Nw.pe_dcT (own := [("signs", 3)]) (hu_of hr) (by rfl) nd (kList (K := K) (pe_callB (kSorted (K := K) rfl hr.units) (by rfl) T.sorted_ (by decide +kernel) (pa_cons (pv 2) pa_nil))) (blkOk_by (own := [("signs", 3)]) (N := N_lot_cells) (sc := defScope s_lot_cells) (by decide +kernel)) (fun _ _ _ _ _ => (pg_name (i := 3) nd rfl (Or.inl rfl))) (fun _ _ _ _ _ => (pts_one (pt_val (pe_cl C_has_signs (hr.mono (by decide)) (by rfl) (pa_cons (pv 0) (pa_cons (pv 1) (pa_cons (pv 3) pa_nil))))))) (fun _ _ _ _ _ => (pv 3)) (fun _ _ _ _ _ => (pe_dget (hu_of hr) (pv 2) (pv 3) (fun _ _ => rfl))))))), ?_⟩
  intro B ks O Φ hl ⟨t, p, e1, ht, hP, e2, q⟩
  subst e1 e2
  have h5 := hP.le
  walk_at "sk"
  refine ⟨rfl, callK0 ⟨t.plV, rfl, hP, rfl, fun fa kvs hcs => ?_⟩⟩
  have hrow : ∀ k ∈ keys kvs, ∃ r, k = sg t.plV r := fun k hk => let ⟨r, _, _, e⟩ := hcs.rc.at hk; ⟨r, e⟩
  have hsc : SC t.plV (Nw.sortI (keys kvs)) := ⟨kvs, hcs, rfl⟩
  obtain ⟨hnd, _⟩ := hsc.facts
  have hfew := hsc.few h5
  walk_at "sk"
  refine ev_dcT (ei_list ?_) (own_name (by decide))
  walk_at "sk"
  refine oc_sorted (ks := keys kvs) (n := t.plV.length) (.dk (.dic (by simp))) (fun k hk => ?_) (rows_one hcs.rc.nd hrow) fun s => ?_
  · obtain ⟨r, rfl⟩ := hrow k hk
    exact sg_len _ _
  · refine ⟨s, _, rfl, List.mem_cons_self .., fun i acc O' => O' = [(s, .lst ((Nw.sortI (keys kvs)).map tupI)), (fa, .dic kvs), (p, .ins C (lotF t))] ∧ keys acc = ((Nw.sortI (keys kvs)).take i).filter (t.hK t.plV) ∧ ∀ kv ∈ acc, ∃ r : V3, kv.2 = r.d ∧ RayOk r ∧ kv.1 = sg t.plV r,
      ⟨rfl, rfl, fun _ h => nomatch h⟩, fun i acc O' _ hI => ?_, fun i k acc O' hk hI => ?_, fun acc O' hI r => ?_⟩
    · obtain ⟨rfl, hacc, _⟩ := hI
      refine ⟨?_, fun q hq => ?_⟩
      · have h1 := congrArg List.length hacc
        unfold keys at h1
        rw [List.length_map] at h1
        have h2 : (((Nw.sortI (List.map (fun x => x.1) kvs)).take i).filter (t.hK t.plV)).length ≤ _ := List.length_filter_le _ _
        rw [List.length_take] at h2
        have h3 : (Nw.sortI (List.map (fun x => x.1) kvs)).length ≤ 243 := hfew
        omega
      · rw [List.mem_singleton] at hq
        rw [hq]
        exact List.mem_cons_self ..
    · obtain ⟨rfl, hacc, hray⟩ := hI
      rw [List.getElem?_map, List.getElem?_map] at hk
      cases hj : (Nw.sortI (keys kvs))[i]? with
      | none => rw [hj] at hk; cases hk
      | some j =>
        rw [hj] at hk
        cases hk
        have hjm : j ∈ keys kvs := mem_sortI.mp (List.mem_of_getElem? hj)
        have et : (Nw.sortI (keys kvs)).take (i + 1) = (Nw.sortI (keys kvs)).take i ++ [j] := by rw [List.take_add_one, hj]; rfl
        obtain ⟨r, hlk, hro, ej⟩ := hcs.rc.at hjm
        have hnew : j ∉ keys acc := fun h => by
          rw [hacc] at h
          have h1 := (List.mem_filter.mp h).1
          have h2 := hnd.sublist (List.take_sublist (i + 1) _)
          rw [et] at h2
          exact (List.nodup_append.mp h2).2.2 j h1 j (List.mem_singleton.mpr rfl) rfl
        refine tg_name ?_
        walk_at "sk"
        refine ⟨rfl, [(p, .ins C (lotF t))], [(s, .lst ((Nw.sortI (keys kvs)).map tupI)), (fa, .dic kvs)], List.perm_append_comm (l₁ := [(s, Cell.lst ((Nw.sortI (keys kvs)).map tupI)), (fa, Cell.dic kvs)]) (l₂ := [(p, Cell.ins C (lotF t))]), t, j, p, rfl, ht, by rw [ej, sg_len], rfl, ?_⟩
        refine ⟨_, rfl, fun h => ?_, fun h => ?_⟩
        · walk_at "sk"
          refine ev_dget ?_
          walk_at "sk"
          refine ⟨kvs, j, r.d, .dic (by simp), rfl, hlk, ?_⟩
          refine ⟨r.d, [(s, .lst ((Nw.sortI (keys kvs)).map tupI)), (fa, .dic kvs), (p, .ins C (lotF t))], rfl, ⟨[], ?_⟩, rfl, ?_, fun kv hm => ?_⟩
          · exact List.perm_append_comm (l₁ := [(p, Cell.ins C (lotF t))]) (l₂ := [(s, Cell.lst ((Nw.sortI (keys kvs)).map tupI)), (fa, Cell.dic kvs)])
          · rw [keys_put, if_neg hnew, hacc, et, List.filter_append]
            simp [h]
          · rcases mem_put hm with hm | rfl
            · exact hray kv hm
            · exact ⟨r, rfl, hro, ej⟩
        · refine ⟨[(s, .lst ((Nw.sortI (keys kvs)).map tupI)), (fa, .dic kvs), (p, .ins C (lotF t))], ⟨[], ?_⟩, rfl, ?_, hray⟩
          · exact List.perm_append_comm (l₁ := [(p, Cell.ins C (lotF t))]) (l₂ := [(s, Cell.lst ((Nw.sortI (keys kvs)).map tupI)), (fa, Cell.dic kvs)])
          · rw [hacc, et, List.filter_append]
            simp [h]
    · obtain ⟨rfl, hacc, hray⟩ := hI
      rw [List.length_map, List.length_map, List.take_length] at hacc
      refine ⟨[(r, .dic acc), (p, .ins C (lotF t))], sub_keep (sub_cons (sub_cons (sub_refl _))), q r acc ⟨⟨_, hsc, hacc⟩, hray⟩⟩
end
end Sk


/-! Ce6: what is asked of a lot -/
namespace Sk
open PySem PySem.Spec PyProof.Rows L2
local macro_rules | `(tactic| walk_at "sk") => `(tactic| repeat' (first
  | ((with_reducible show Ev _ (tVar _) _ _ _); refine ev_var rfl ?_) | with_reducible refine ev_int ?_ | with_reducible refine ev_bl ?_ | with_reducible refine ev_non ?_ | with_reducible refine ev_str ?_ | with_reducible refine ev_ty ?_ | with_reducible refine ev_ref ?_
  | with_reducible refine ev_op ?_ | with_reducible refine ev_un ?_ | with_reducible refine ev_cb ?_ | with_reducible refine ea_cons ?_ | with_reducible refine ea_nil ?_
  | with_reducible refine ev_if ?_ | with_reducible refine ev_and ?_ | with_reducible refine ev_or ?_ | with_reducible refine ev_not ?_ | with_reducible refine ev_tup ?_ | with_reducible refine ev_call ?_
  | with_reducible refine sx_seq ?_ | with_reducible refine sx_asg ?_ | with_reducible refine tg_name ?_ | with_reducible refine sx_ret ?_ | with_reducible refine sx_next ?_ | with_reducible refine sx_drop ?_ | with_reducible refine sx_if ?_
  | with_reducible refine et_chain ?_ | with_reducible refine et_test ?_ | with_reducible refine et_B ?_ | with_reducible refine et_not ?_ | with_reducible refine et_and ?_ | with_reducible refine et_or ?_
  | with_reducible refine o_add ?_ | with_reducible refine o_sub ?_ | with_reducible refine o_lt ?_ | with_reducible refine o_le ?_ | with_reducible refine o_gt ?_ | with_reducible refine o_ge ?_
  | with_reducible refine o_neg ?_ | with_reducible refine o_subB ?_ | with_reducible refine o_mul ?_ ?_
  | ((with_reducible show Op2 _ (rIx _) _ _ _ _); refine o_ix (.tup _) rfl ?_)
  | ((with_reducible show Op2 _ (rEqD _) _ _ _ _); (first | refine o_eqD (.dat _) (.dat _) rfl rfl ?_ | refine o_eqD (.dat _) (.dat _) (by decide +kernel) (by decide +kernel) ?_))
  | ((with_reducible show Op2 _ (rNeD _) _ _ _ _); (first | refine o_neD (.dat _) (.dat _) rfl rfl ?_ | refine o_neD (.dat _) (.dat _) (by decide +kernel) (by decide +kernel) ?_))
  | ((with_reducible show Op2 _ (rIn _ false) _ _ _ _); refine o_in (.tup _) (by rfl) (by rfl) ?_) | ((with_reducible show Op2 _ (rIn _ true) _ _ _ _); refine o_notIn (.tup _) (by rfl) (by rfl) ?_)
  | ((with_reducible show OpC _ (rIsi _) _ _ _); (first | refine oc_isi (b := true) (by rfl) ?_ | refine oc_isi (b := false) (by rfl) ?_))
  | ((with_reducible show OpC _ _ _ _ _); refine oc_len (.tup _) ?_)
  | ((with_reducible show Tg _ (gTup _ _ _) _ _ _ _); (first | with_reducible refine tg_pair ?_ | refine tg_tup rfl ?_)) | ((with_reducible show Tgs _ (gCons _ _) _ _ _ _); refine tgs_cons ?_) | ((with_reducible show Tgs _ gNil _ _ _ _); refine tgs_nil ?_)
  | ((with_reducible show ∃ ds, alld _ ds ∧ _); (first
    | refine ⟨[_, _, _], ⟨rfl, rfl, rfl, trivial⟩, Nat.le_of_ble_eq_true rfl, ?_⟩ | refine ⟨[_, _], ⟨rfl, rfl, trivial⟩, Nat.le_of_ble_eq_true rfl, ?_⟩ | refine ⟨[_], ⟨rfl, trivial⟩, Nat.le_of_ble_eq_true rfl, ?_⟩ | refine ⟨[], trivial, Nat.le_of_ble_eq_true rfl, ?_⟩
    | refine ⟨[_, _, _, _], ⟨rfl, rfl, rfl, rfl, trivial⟩, Nat.le_of_ble_eq_true rfl, ?_⟩ | refine ⟨[_, _, _, _, _], ⟨rfl, rfl, rfl, rfl, rfl, trivial⟩, Nat.le_of_ble_eq_true rfl, ?_⟩ | refine ⟨[_, _, _, _, _, _], ⟨rfl, rfl, rfl, rfl, rfl, rfl, trivial⟩, Nat.le_of_ble_eq_true rfl, ?_⟩
    | refine ⟨[_, _, _, _, _, _, _], ⟨rfl, rfl, rfl, rfl, rfl, rfl, rfl, trivial⟩, Nat.le_of_ble_eq_true rfl, ?_⟩))
  | ((with_reducible show (_ = true → _) ∧ (_ = false → _)); (first | refine pickT rfl ?_ | refine pickF rfl ?_))
  | ((with_reducible show ∃ _, Kn.dat (PyData.bool _) = Kn.dat (PyData.bool _) ∧ _); refine ⟨_, rfl, ?_⟩)
  | ((with_reducible show ∃ _, Kn.dat _ = Kn.dat _ ∧ _); refine ⟨_, rfl, ?_⟩) | fail))

section
variable {P : Program} {w : World} {K : PySem.W.Frag} {mg : Str → Option Value} {base : Heap} {f : Addr} {fd : FuncData} {C : Addr}

/-- a lot that is asked -/
structure LotA (C : Addr) (t : Tr) (p : Addr) (ks : List Kn) (O : Cs) : Prop where
  ks : ks = [.ptr p]
  O : O = [(p, .ins C (lotF t))]
  ok : TOk 8 t
  pl : Pl t.plV
/-- its cells -/
def mine (t : Tr) (L : List Rw) : List Rw := L.filter (t.hK t.plV)
theorem LC.tups {t : Tr} {kvs : Kv} (h : LC t kvs) {L : List Rw} (hL : SC t.plV L) : keys kvs = mine t L := by
  obtain ⟨L', h1, h2⟩ := h.ks
  rw [h2, hL.eq h1]; rfl
theorem LC.few {t : Tr} {kvs : Kv} (h : LC t kvs) (hP : Pl t.plV) : kvs.length ≤ 243 := by
  obtain ⟨L', h1, h2⟩ := h.ks
  have e := congrArg List.length h2
  unfold keys at e
  rw [List.length_map] at e
  rw [e]
  exact Nat.le_trans (List.length_filter_le _ _) (h1.few hP.le)
theorem LC.row {t : Tr} {kvs : Kv} (h : LC t kvs) {k : Rw} (hk : k ∈ keys kvs) : ∃ r, k = sg t.plV r := by
  obtain ⟨kv, hm, rfl⟩ := List.mem_map.mp hk
  obtain ⟨r, _, _, e⟩ := h.ray kv hm
  exact ⟨r, e⟩
def w_cells_of (C : Addr) : WT := fun ks O Φ => ∃ (t : Tr) (p : Addr), LotA C t p ks O ∧ ∀ kvs, LC t kvs → Φ (.dat (.tuple ((keys kvs).map tupI))) [(p, .ins C (lotF t))]
theorem cells_of_k (T : Bt mg) (L : LotC P w K mg C) (F : Df K mg "cells_of" s_cells_of f fd) (C_check_lot : Cl P w K mg base "check_lot" 1 1 (w_check_lot C)) (C_lot_cells : Cl P w K mg base "lot_cells" 14 2 (w_lot_cells C)) : FnOk P w K mg base CX0 15 f fd ["lot"] (spW 1 (w_cells_of C)) := by
  have nd := sc_cells_of.nd
  refine fn_sk 1 F.fn sc_cells_of rfl fun cdv A outer s H E hr => ⟨_, (pss_cons (ps_expr (pe_cl C_check_lot (hr.mono (by decide)) (by rfl) (pa_cons (pv 0) pa_nil)))
      (pss_one (ps_ret (pe_callTy (Nw.call_tuple_dT rfl) (by rfl) T.tuple_ (by decide +kernel) (pa_cons (pe_cl C_lot_cells (hr.mono (by decide)) (by rfl) (pa_cons (pv 0) (pa_cons (kFld (K := K) (pv 0) rfl) pa_nil))) pa_nil))))), ?_⟩
  intro B ks O Φ hl ⟨t, p, ⟨e1, e2, ht, hP⟩, q⟩
  subst e1 e2
  walk_at "sk"
  refine ⟨rfl, _, [], .refl _, p, lotF t, rfl, rfl, ?_⟩
  walk_at "sk"
  refine ev_fld L.is.cl L.planes ?_
  walk_at "sk"
  refine ⟨p, lotF t, _, rfl, List.mem_cons_self .., rfl, ?_⟩
  walk_at "sk"
  refine ⟨rfl, _, [], .refl _, t, p, rfl, ht, hP, rfl, fun r kvs hlc => ?_⟩
  walk_at "sk"
  refine oc_tupleD (.dic (List.mem_cons_self ..)) ⟨_, sub_cons (sub_refl _), ?_⟩
  have := q kvs hlc
  unfold keys at this
  rw [List.map_map] at this
  exact this
theorem cl_cells_of (T : Bt mg) (L : LotC P w K mg C) (F : Df K mg "cells_of" s_cells_of f fd) (C_check_lot : Cl P w K mg base "check_lot" 1 1 (w_check_lot C)) (C_lot_cells : Cl P w K mg base "lot_cells" 14 2 (w_lot_cells C)) : Cl P w K mg base "cells_of" 15 1 (w_cells_of C) :=
  ⟨f, fd, ["lot"], cells_of_k T L F C_check_lot C_lot_cells, F.at_, F.fn.kp, F.fn.binds (fun _ _ _ _ _ _ us hl => match us, hl with | [_], _ => rfl)⟩
theorem clk_cells_of (T : Bt mg) (L : LotC P w K mg C) (F : Df K mg "cells_of" s_cells_of f fd) (C_check_lot : Cl P w K mg base "check_lot" 1 1 (w_check_lot C)) (C_lot_cells : Cl P w K mg base "lot_cells" 14 2 (w_lot_cells C)) : ClK P w K mg base "cells_of" "lot" 15 (w_cells_of C) := by
  refine ⟨f, fd, cells_of_k T L F C_check_lot C_lot_cells, F.at_, F.fn.kp, fun s u => ?_⟩
  obtain ⟨oc, od, kV, doc, pm, an, cdv, ct, osl, rfl, lk, hcd⟩ := F.fn.ex
  exact .of_eq rfl

def w_any_ray (C : Addr) : WT := fun ks O Φ => ∃ (t : Tr) (p : Addr), LotA C t p ks O ∧ (∀ kvs, LC t kvs → keys kvs = [] → Φ (.dat .none) [(p, .ins C (lotF t))]) ∧ ∀ kvs r, LC t kvs → keys kvs ≠ [] → RayOk r → sg t.plV r ∈ keys kvs → Φ (.dat r.d) [(p, .ins C (lotF t))]
theorem cl_any_ray (T : Bt mg) (L : LotC P w K mg C) (F : Df K mg "any_ray" s_any_ray f fd) (C_check_lot : Cl P w K mg base "check_lot" 1 1 (w_check_lot C)) (C_lot_cells : Cl P w K mg base "lot_cells" 14 2 (w_lot_cells C)) : Cl P w K mg base "any_ray" 15 1 (w_any_ray C) := by
  have nd := sc_any_ray.nd
  refine cl_of 14 1 F sc_any_ray rfl (fun _ _ _ _ _ _ us hl => match us, hl with | [_], _ => rfl) fun cdv A outer s H E hr => ⟨_, (pss_cons (ps_expr (pe_cl C_check_lot (hr.mono (by decide)) (by rfl) (pa_cons (pv 0) pa_nil)))
      (pss_cons (ps_for PassesOwn.never rfl (Nw.pi_itemsF (pe_cl C_lot_cells (hr.mono (by decide)) (by rfl) (pa_cons (pv 0) (pa_cons (kFld (K := K) (pv 0) rfl) pa_nil)))) (kgTup (K := K) (n := 2) rfl (pgs_cons (pg_name (i := 1) nd rfl (Or.inl rfl)) (pgs_cons (pg_name (i := 2) nd rfl (Or.inl rfl)) pgs_nil))) (pss_one (ps_ret (pv 2))))
      (pss_one (ps_ret pe_non)))), ?_⟩
  intro B ks O Φ hl ⟨t, p, ⟨e1, e2, ht, hP⟩, q1, q2⟩
  subst e1 e2
  walk_at "sk"
  refine ⟨rfl, _, [], .refl _, p, lotF t, rfl, rfl, ?_⟩
  walk_at "sk"
  refine sx_for (ei_items ?_)
  walk_at "sk"
  refine ev_fld L.is.cl L.planes ?_
  walk_at "sk"
  refine ⟨p, lotF t, _, rfl, List.mem_cons_self .., rfl, ?_⟩
  walk_at "sk"
  refine ⟨rfl, _, [], .refl _, t, p, rfl, ht, hP, rfl, fun r kvs hlc => ⟨r, kvs, 0, rfl, rfl, fun od ws => ?_⟩⟩
  refine ⟨fun i ρ' O' => O' = [(r, .fz od ws kvs), (p, .ins C (lotF t))] ∧ i = 0 ∧ ∃ y1 y2, ρ' = [some (.ptr p), y1, y2], ⟨rfl, rfl, _, _, rfl⟩, fun i ρ' O' _ hI q hq => ?_, fun i k ρ' O' hk hI => ?_, fun ρ' O' hI => ?_⟩
  · obtain ⟨rfl, _⟩ := hI
    rw [List.mem_singleton] at hq
    rw [hq]
    exact List.mem_cons_self ..
  · obtain ⟨rfl, rfl, y1, y2, rfl⟩ := hI
    cases kvs with
    | nil => exact nomatch hk
    | cons kv kvs =>
      simp only [List.map_cons, List.getElem?_cons_zero, Option.some.injEq] at hk
      subst hk
      obtain ⟨v, e1, hv, e2⟩ := hlc.ray kv (List.mem_cons_self ..)
      rw [e1]
      walk_at "sk"
      refine ⟨[(p, .ins C (lotF t))], sub_cons (sub_refl _), q2 _ v hlc (by simp [keys]) hv ?_⟩
      rw [← e2]
      simp [keys]
  · obtain ⟨rfl, h0, y1, y2, rfl⟩ := hI
    have hkv : kvs = [] := by
      rw [List.length_map] at h0
      exact List.eq_nil_of_length_eq_zero h0
    walk_at "sk"
    exact ⟨[(p, .ins C (lotF t))], sub_cons (sub_refl _), q1 kvs hlc (by rw [hkv]; rfl)⟩

def w_is_empty (C : Addr) : WT := fun ks O Φ => ∃ (t : Tr) (p : Addr), LotA C t p ks O ∧ ∀ kvs, LC t kvs → Φ (.dat (.bool (keys kvs).isEmpty)) [(p, .ins C (lotF t))]
theorem is_empty_k (T : Bt mg) (F : Df K mg "is_empty" s_is_empty f fd) (C_any_ray : Cl P w K mg base "any_ray" 15 1 (w_any_ray C)) : FnOk P w K mg base CX0 16 f fd ["lot"] (spW 1 (w_is_empty C)) := by
  have nd := sc_is_empty.nd
  refine fn_sk 1 F.fn sc_is_empty rfl fun cdv A outer s H E hr => ⟨_, (pss_one (ps_ret (pe_cmpR op_isN (pe_cl C_any_ray (hr.mono (by decide)) (by rfl) (pa_cons (pv 0) pa_nil)) pe_non (nomark _)))), ?_⟩
  intro B ks O Φ hl ⟨t, p, ⟨e1, e2, ht, hP⟩, q⟩
  subst e1 e2
  walk_at "sk"
  refine ⟨rfl, _, [], .refl _, t, p, ⟨rfl, rfl, ht, hP⟩, fun kvs hlc h0 => ?_, fun kvs r hlc h0 _ _ => ?_⟩
  · walk_at "sk"
    refine o_isN ⟨_, sub_refl _, ?_⟩
    have := q kvs hlc
    rw [h0] at this
    exact this
  · walk_at "sk"
    refine o_isN ⟨_, sub_refl _, ?_⟩
    have := q kvs hlc
    rw [List.isEmpty_eq_false_iff.mpr h0] at this
    exact this
theorem cl_is_empty (T : Bt mg) (F : Df K mg "is_empty" s_is_empty f fd) (C_any_ray : Cl P w K mg base "any_ray" 15 1 (w_any_ray C)) : Cl P w K mg base "is_empty" 16 1 (w_is_empty C) :=
  ⟨f, fd, ["lot"], is_empty_k T F C_any_ray, F.at_, F.fn.kp, F.fn.binds (fun _ _ _ _ _ _ us hl => match us, hl with | [_], _ => rfl)⟩
theorem clk_is_empty (T : Bt mg) (F : Df K mg "is_empty" s_is_empty f fd) (C_any_ray : Cl P w K mg base "any_ray" 15 1 (w_any_ray C)) : ClK P w K mg base "is_empty" "lot" 16 (w_is_empty C) := by
  refine ⟨f, fd, is_empty_k T F C_any_ray, F.at_, F.fn.kp, fun s u => ?_⟩
  obtain ⟨oc, od, kV, doc, pm, an, cdv, ct, osl, rfl, lk, hcd⟩ := F.fn.ex
  exact .of_eq rfl

def w_has_open (C : Addr) : WT := fun ks O Φ => ∃ (t : Tr) (p : Addr), LotA C t p ks O ∧ ∀ kvs b, LC t kvs → (b = true ↔ ∃ k ∈ keys kvs, zI k = 0) → Φ (.dat (.bool b)) [(p, .ins C (lotF t))]
theorem shaped_rows {ks : List Rw} : SeqAt.shaped (.list (ks.map tupI)) = true := by
  have h : PyData.canLayAll0 (ks.map tupI) = true ∧ PyData.depthAll (ks.map tupI) ≤ 1 := by
    induction ks with
    | nil => exact ⟨rfl, by decide⟩
    | cons k ks ih =>
      have h2 : PyData.canLayAll0 (k.map PyData.int) = true ∧ PyData.depthAll (k.map PyData.int) = 0 := by
        clear ih
        induction k with
        | nil => exact ⟨rfl, rfl⟩
        | cons n k ih => exact ⟨by simp only [List.map_cons, PyData.canLayAll0, PyData.canLay0, ih.1, Bool.and_self], by simp only [List.map_cons, PyData.depthAll, PyData.depth, ih.2]; rfl⟩
      refine ⟨by simp only [List.map_cons, PyData.canLayAll0, tupI, PyData.canLay0, h2.1, ih.1, Bool.and_self], ?_⟩
      simp only [List.map_cons, PyData.depthAll, tupI, PyData.depth, h2.2]
      omega
  unfold SeqAt.shaped
  simp only [PyData.canLay0, h.1, Bool.true_and, PyData.depth]
  exact decide_eq_true (by omega)
theorem eqv_nil {ds : List PyData} : PyData.eqv (.list ds) (.list []) = ds.isEmpty := by
  cases ds <;> simp [PyData.eqv, PyData.eqvAll]
theorem fm_rows (c : Rw → Bool) (ks : List Rw) : (ks.filterMap fun k => if c k then some (tupI k) else none) = (ks.filter c).map tupI := by
  induction ks with
  | nil => rfl
  | cons n k ih =>
    by_cases h : c n
    · simp only [List.filterMap_cons, List.filter_cons, h, if_true, List.map_cons, ih]
    · simp only [List.filterMap_cons, List.filter_cons, h, if_false, ih]; rfl
theorem cl_has_open (T : Bt mg) (L : LotC P w K mg C) (F : Df K mg "has_open" s_has_open f fd) (C_check_lot : Cl P w K mg base "check_lot" 1 1 (w_check_lot C)) (C_lot_cells : Cl P w K mg base "lot_cells" 14 2 (w_lot_cells C)) (C_zeros_in : Cl P w K mg base "zeros_in" 1 1 w_zeros_in) : Cl P w K mg base "has_open" 15 1 (w_has_open C) := by
  have nd := sc_has_open.nd
  refine cl_of 14 1 F sc_has_open rfl (fun _ _ _ _ _ _ us hl => match us, hl with | [_], _ => rfl) fun cdv A outer s H E hr => ⟨_, (pss_cons (ps_expr (pe_cl C_check_lot (hr.mono (by decide)) (by rfl) (pa_cons (pv 0) pa_nil)))
      (pss_one (ps_ret (pe_cmpR (kNeD (K := K) hr.units) (pe_lc (own := [("signs", 1)]) (g := gName 1) (by rfl) nd (Nw.pi_keysF (pe_cl C_lot_cells (hr.mono (by decide)) (by rfl) (pa_cons (pv 0) (pa_cons (kFld (K := K) (pv 0) rfl) pa_nil)))) (blkOk_by (own := [("signs", 1)]) (N := N_has_open) (sc := defScope s_has_open) (by decide +kernel)) (fun _ _ _ _ _ => (pg_name (i := 1) nd rfl (Or.inl rfl))) (fun _ _ _ _ _ => (pts_one (pt_cmpR (kEqD (K := K) hr.units) (pe_cl C_zeros_in (hr.mono (by decide)) (by rfl) (pa_cons (pv 1) pa_nil)) pe_int (nomark _)))) (fun _ _ _ _ _ => (pv 1))) (pe_lst pa_nil) (nomark _))))), ?_⟩
  intro B ks O Φ hl ⟨t, p, ⟨e1, e2, ht, hP⟩, q⟩
  subst e1 e2
  have h5 := hP.le
  walk_at "sk"
  refine ⟨rfl, _, [], .refl _, p, lotF t, rfl, rfl, ?_⟩
  walk_at "sk"
  refine ev_lcF (ei_keys ?_) (own_name (by decide))
  walk_at "sk"
  refine ev_fld L.is.cl L.planes ?_
  walk_at "sk"
  refine ⟨p, lotF t, _, rfl, List.mem_cons_self .., rfl, ?_⟩
  walk_at "sk"
  refine ⟨rfl, _, [], .refl _, t, p, rfl, ht, hP, rfl, fun r kvs hlc => ⟨r, kvs, 0, rfl, .inl ⟨rfl, fun od ws => ?_⟩⟩⟩
  have hfew := hlc.few hP
  refine ⟨Rw, keys kvs, fun k => .dat (tupI k), fun k => if zI k == 0 then some (tupI k) else none, by unfold keys; rw [List.map_map]; rfl, by unfold keys; rw [List.length_map]; omega, fun q hq => ?_, fun k hk => ?_, fun s => ?_⟩
  · rw [List.mem_singleton] at hq
    rw [hq]
    exact List.mem_cons_self ..
  · obtain ⟨v, rfl⟩ := hlc.row hk
    refine tg_name ?_
    walk_at "sk"
    refine ⟨rfl, callK0 ⟨_, rfl, by rw [sg_len]; omega, rfl, ?_⟩⟩
    walk_at "sk"
    rw [eqv_int, show (((zI (sg t.plV v) : Nat) : Int) == 0) = (zI (sg t.plV v) == 0) by rw [Bool.eq_iff_iff]; simp]
    refine ⟨fun h => ?_, fun h => ⟨by show (if (zI (sg t.plV v) == 0) = true then _ else _) = _; rw [h]; rfl, sub_refl _⟩⟩
    walk_at "sk"
    exact ⟨by show (if (zI (sg t.plV v) == 0) = true then _ else _) = _; rw [h]; rfl, sub_refl _⟩
  · walk_at "sk"
    refine ev_lst ?_
    walk_at "sk"
    intro e
    rw [fm_rows]
    refine o_neD (.lst (List.mem_cons_of_mem _ (List.mem_cons_self ..))) (.lst (List.mem_cons_self ..)) shaped_rows (by decide +kernel) ?_
    rw [eqv_nil]
    refine ⟨[(p, .ins C (lotF t))], sub_cons (sub_cons (sub_cons (sub_refl _))), q kvs _ hlc ?_⟩
    rw [Bool.not_eq_true', List.isEmpty_eq_false_iff]
    constructor
    · intro h
      obtain ⟨d, hd⟩ := List.exists_mem_of_ne_nil _ h
      obtain ⟨k, hk, _⟩ := List.mem_map.mp hd
      obtain ⟨h1, h2⟩ := List.mem_filter.mp hk
      exact ⟨k, h1, by simpa using h2⟩
    · rintro ⟨k, h1, h2⟩
      exact List.ne_nil_of_mem (List.mem_map.mpr ⟨k, List.mem_filter.mpr ⟨h1, by simpa using h2⟩, rfl⟩)
end
end Sk


/-! Ce7: is_open -/
namespace Sk
open PySem PySem.Spec PyProof.Rows L2
local macro_rules | `(tactic| walk_at "sk") => `(tactic| repeat' (first
  | ((with_reducible show Ev _ (tVar _) _ _ _); refine ev_var rfl ?_) | with_reducible refine ev_int ?_ | with_reducible refine ev_bl ?_ | with_reducible refine ev_non ?_ | with_reducible refine ev_str ?_ | with_reducible refine ev_ty ?_ | with_reducible refine ev_ref ?_
  | with_reducible refine ev_op ?_ | with_reducible refine ev_un ?_ | with_reducible refine ev_cb ?_ | with_reducible refine ea_cons ?_ | with_reducible refine ea_nil ?_
  | with_reducible refine ev_if ?_ | with_reducible refine ev_and ?_ | with_reducible refine ev_or ?_ | with_reducible refine ev_not ?_ | with_reducible refine ev_tup ?_ | with_reducible refine ev_call ?_
  | with_reducible refine sx_seq ?_ | with_reducible refine sx_asg ?_ | with_reducible refine tg_name ?_ | with_reducible refine sx_ret ?_ | with_reducible refine sx_next ?_ | with_reducible refine sx_drop ?_ | with_reducible refine sx_if ?_
  | with_reducible refine et_chain ?_ | with_reducible refine et_test ?_ | with_reducible refine et_B ?_ | with_reducible refine et_not ?_ | with_reducible refine et_and ?_ | with_reducible refine et_or ?_
  | with_reducible refine o_add ?_ | with_reducible refine o_sub ?_ | with_reducible refine o_lt ?_ | with_reducible refine o_le ?_ | with_reducible refine o_gt ?_ | with_reducible refine o_ge ?_
  | with_reducible refine o_neg ?_ | with_reducible refine o_subB ?_ | with_reducible refine o_mul ?_ ?_
  | ((with_reducible show Op2 _ (rIx _) _ _ _ _); refine o_ix (.tup _) rfl ?_)
  | ((with_reducible show Op2 _ (rEqD _) _ _ _ _); (first | refine o_eqD (.dat _) (.dat _) rfl rfl ?_ | refine o_eqD (.dat _) (.dat _) (by decide +kernel) (by decide +kernel) ?_))
  | ((with_reducible show Op2 _ (rNeD _) _ _ _ _); (first | refine o_neD (.dat _) (.dat _) rfl rfl ?_ | refine o_neD (.dat _) (.dat _) (by decide +kernel) (by decide +kernel) ?_))
  | ((with_reducible show Op2 _ (rIn _ false) _ _ _ _); refine o_in (.tup _) (by rfl) (by rfl) ?_) | ((with_reducible show Op2 _ (rIn _ true) _ _ _ _); refine o_notIn (.tup _) (by rfl) (by rfl) ?_)
  | ((with_reducible show OpC _ (rIsi _) _ _ _); (first | refine oc_isi (b := true) (by rfl) ?_ | refine oc_isi (b := false) (by rfl) ?_))
  | ((with_reducible show OpC _ _ _ _ _); refine oc_len (.tup _) ?_)
  | ((with_reducible show Tg _ (gTup _ _ _) _ _ _ _); (first | with_reducible refine tg_pair ?_ | refine tg_tup rfl ?_)) | ((with_reducible show Tgs _ (gCons _ _) _ _ _ _); refine tgs_cons ?_) | ((with_reducible show Tgs _ gNil _ _ _ _); refine tgs_nil ?_)
  | ((with_reducible show ∃ ds, alld _ ds ∧ _); (first
    | refine ⟨[_, _, _], ⟨rfl, rfl, rfl, trivial⟩, Nat.le_of_ble_eq_true rfl, ?_⟩ | refine ⟨[_, _], ⟨rfl, rfl, trivial⟩, Nat.le_of_ble_eq_true rfl, ?_⟩ | refine ⟨[_], ⟨rfl, trivial⟩, Nat.le_of_ble_eq_true rfl, ?_⟩ | refine ⟨[], trivial, Nat.le_of_ble_eq_true rfl, ?_⟩
    | refine ⟨[_, _, _, _], ⟨rfl, rfl, rfl, rfl, trivial⟩, Nat.le_of_ble_eq_true rfl, ?_⟩ | refine ⟨[_, _, _, _, _], ⟨rfl, rfl, rfl, rfl, rfl, trivial⟩, Nat.le_of_ble_eq_true rfl, ?_⟩ | refine ⟨[_, _, _, _, _, _], ⟨rfl, rfl, rfl, rfl, rfl, rfl, trivial⟩, Nat.le_of_ble_eq_true rfl, ?_⟩
    | refine ⟨[_, _, _, _, _, _, _], ⟨rfl, rfl, rfl, rfl, rfl, rfl, rfl, trivial⟩, Nat.le_of_ble_eq_true rfl, ?_⟩))
  | ((with_reducible show (_ = true → _) ∧ (_ = false → _)); (first | refine pickT rfl ?_ | refine pickF rfl ?_))
  | ((with_reducible show ∃ _, Kn.dat (PyData.bool _) = Kn.dat (PyData.bool _) ∧ _); refine ⟨_, rfl, ?_⟩)
  | ((with_reducible show ∃ _, Kn.dat _ = Kn.dat _ ∧ _); refine ⟨_, rfl, ?_⟩) | fail))

section
variable {P : Program} {w : World} {K : PySem.W.Frag} {mg : Str → Option Value} {base : Heap} {f : Addr} {fd : FuncData} {C : Addr}
def w_is_open (C : Addr) : WT := fun ks O Φ => ∃ (t : Tr) (p : Addr), LotA C t p ks O ∧ ∀ kvs all b, LC t kvs → CellsOk t.plV all → (b = true ↔ ∀ s ∈ keys all, s ∉ keys kvs → ∀ e ∈ keys kvs, liesB e s = false) → Φ (.dat (.bool b)) [(p, .ins C (lotF t))]
theorem cl_is_open (T : Bt mg) (L : LotC P w K mg C) (F : Df K mg "is_open" s_is_open f fd) (C_check_lot : Cl P w K mg base "check_lot" 1 1 (w_check_lot C)) (C_lot_cells : Cl P w K mg base "lot_cells" 14 2 (w_lot_cells C)) (C_all_cells : Cl P w K mg base "all_cells" 5 1 w_all_cells) (C_lies_at : Cl P w K mg base "lies_at" 1 2 w_lies_at) : Cl P w K mg base "is_open" 15 1 (w_is_open C) := by
  have nd := sc_is_open.nd
  refine cl_of 14 1 F sc_is_open rfl (fun _ _ _ _ _ _ us hl => match us, hl with | [_], _ => rfl) fun cdv A outer s H E hr => ⟨_, (pss_cons (ps_expr (pe_cl C_check_lot (hr.mono (by decide)) (by rfl) (pa_cons (pv 0) pa_nil)))
      (pss_cons (ps_set (i := 1) nd rfl (Or.inl rfl) (pe_cl C_lot_cells (hr.mono (by decide)) (by rfl) (pa_cons (pv 0) (pa_cons (kFld (K := K) (pv 0) rfl) pa_nil))))
      (pss_cons (ps_for PassesOwn.never rfl (Nw.pi_keysF (pe_cl C_all_cells (hr.mono (by decide)) (by rfl) (pa_cons (kFld (K := K) (pv 0) rfl) pa_nil))) (pg_name (i := 2) nd rfl (Or.inr rfl)) (pss_one (ps_if (PW.pt (pw_and (pt_cmp (pc_dnotin (hu_of hr) (pv 2) (pv 1))) (pw_and1 (pt_cmpR (kNeD (K := K) hr.units) (pe_lc (own := [("each", 3)]) (g := gName 3) (by rfl) nd (Nw.pi_keysF (pv 1)) (blkOk_by (own := [("each", 3)]) (N := N_is_open) (sc := defScope s_is_open) (by decide +kernel)) (fun _ _ _ _ _ => (pg_name (i := 3) nd rfl (Or.inl rfl))) (fun _ _ _ _ _ => (pts_one (pt_val (pe_cl C_lies_at (hr.mono (by decide)) (by rfl) (pa_cons (pv 3) (pa_cons (pv 2) pa_nil)))))) (fun _ _ _ _ _ => (pv 3))) (pe_lst pa_nil) (nomark _))))) (pss_one (ps_ret pe_bl)) pss_nil)))
      (pss_one (ps_ret pe_bl))))), ?_⟩
  intro B ks O Φ hl ⟨t, p, ⟨e1, e2, ht, hP⟩, q⟩
  subst e1 e2
  have h5 := hP.le
  walk_at "sk"
  refine ⟨rfl, _, [], .refl _, p, lotF t, rfl, rfl, ?_⟩
  walk_at "sk"
  refine ev_fld L.is.cl L.planes ?_
  walk_at "sk"
  refine ⟨p, lotF t, _, rfl, List.mem_cons_self .., rfl, ?_⟩
  walk_at "sk"
  refine ⟨rfl, _, [], .refl _, t, p, rfl, ht, hP, rfl, fun m kvs hlc => ?_⟩
  have hfew := hlc.few hP
  walk_at "sk"
  refine sx_for (ei_keys ?_)
  walk_at "sk"
  refine ev_fld L.is.cl L.planes ?_
  walk_at "sk"
  refine ⟨p, lotF t, _, rfl, by simp, rfl, ?_⟩
  walk_at "sk"
  refine ⟨rfl, callK0 ⟨t.plV, rfl, hP, rfl, fun a all hall => ⟨a, all, 0, rfl, .inl ⟨rfl, fun od ws => ?_⟩⟩⟩⟩
  refine ⟨fun i ρ' O' => ∃ X, O' = [(a, .fz od ws all), (m, X), (p, .ins C (lotF t))] ∧ (X = .dic kvs ∨ ∃ od2 ws2, X = .fz od2 ws2 kvs) ∧ (∀ s ∈ (keys all).take i, s ∉ keys kvs → ∀ e ∈ keys kvs, liesB e s = false) ∧ ∃ y, ρ' = [some (.ptr p), some (.ptr m), y, none],
    ⟨_, rfl, .inl rfl, by simp, _, rfl⟩, fun i ρ' O' _ hI q hq => ?_, fun i k ρ' O' hk hI => ?_, fun ρ' O' hI => ?_⟩
  · obtain ⟨X, rfl, _⟩ := hI
    rw [List.mem_singleton] at hq
    rw [hq]
    exact List.mem_cons_self ..
  · obtain ⟨X, rfl, hX, hno, y, rfl⟩ := hI
    have hk' : ((keys all).map fun k => Kn.dat (tupI k))[i]? = some k := by
      unfold keys
      rw [List.map_map]
      exact hk
    rw [List.getElem?_map] at hk'
    cases hs : (keys all)[i]? with
    | none => rw [hs] at hk'; cases hk'
    | some s =>
      rw [hs] at hk'
      cases hk'
      have et : (keys all).take (i + 1) = (keys all).take i ++ [s] := by rw [List.take_add_one, hs]; rfl
      obtain ⟨v, _, _, esv⟩ := hall.rc.at (List.mem_of_getElem? hs)
      have hdk : ∀ O2 : Cs, Dk ((a, .fz od ws all) :: (m, X) :: O2) (.ptr m) kvs := fun O2 => by
        rcases hX with rfl | ⟨od2, ws2, rfl⟩
        · exact .dic (by simp)
        · exact .fz (od := od2) (ws := ws2) (by simp)
      walk_at "sk"
      refine ev_dnotin ?_
      walk_at "sk"
      refine ⟨kvs, s, hdk _, rfl, ?_⟩
      walk_at "sk"
      by_cases hin : s ∈ keys kvs
      · refine pickF (by rw [look_isSome.mpr hin]; rfl) ?_
        refine pickF rfl ?_
        walk_at "sk"
        refine ⟨_, sub_refl _, _, rfl, hX, fun u hu hn => ?_, _, rfl⟩
        rw [et] at hu
        rcases List.mem_append.mp hu with hu | hu
        · exact hno u hu hn
        · rw [List.mem_singleton.mp hu] at hn
          exact absurd hin hn
      · refine pickT (by rw [Bool.eq_false_iff.mpr (fun e => hin (look_isSome.mp e))]; rfl) ?_
        walk_at "sk"
        refine ev_lcF (ei_keys ?_) (own_name (by decide))
        walk_at "sk"
        have last : ∀ od2 ws2 (r : Addr), Ev B (tLst tNil) [some (.ptr p), some (.ptr m), some (.dat (tupI s)), none] ((r, .lst (((keys kvs).filter fun e => liesB e s).map tupI)) :: [(a, .fz od ws all), (m, .fz od2 ws2 kvs), (p, .ins C (lotF t))]) fun y O2 => Op2 B (rNeD K) (.ptr r) y O2 fun x O1 => ∃ b, x = .dat (.bool b) ∧ (b = true → Sx B (tRet (tC (.bl false))) [some (.ptr p), some (.ptr m), some (.dat (tupI s)), none] O1
            ⟨fun ρ3 O3 => ∃ O4, Sub O4 O3 ∧ ∃ X, O4 = [(a, .fz od ws all), (m, X), (p, .ins C (lotF t))] ∧ (X = .dic kvs ∨ ∃ od2 ws2, X = .fz od2 ws2 kvs) ∧ (∀ s ∈ (keys all).take (i + 1), s ∉ keys kvs → ∀ e ∈ keys kvs, liesB e s = false) ∧ ∃ y, ρ3 = [some (.ptr p), some (.ptr m), y, none], (endsOf Φ).rt, fun ρ' O' => Sx B (tRet (tC (.bl true))) ρ' O' (endsOf Φ), fun ρ3 O3 => ∃ O4, Sub O4 O3 ∧ ∃ X, O4 = [(a, .fz od ws all), (m, X), (p, .ins C (lotF t))] ∧ (X = .dic kvs ∨ ∃ od2 ws2, X = .fz od2 ws2 kvs) ∧ (∀ s ∈ (keys all).take (i + 1), s ∉ keys kvs → ∀ e ∈ keys kvs, liesB e s = false) ∧ ∃ y, ρ3 = [some (.ptr p), some (.ptr m), y, none]⟩) ∧
            (b = false → Sx B tNext [some (.ptr p), some (.ptr m), some (.dat (tupI s)), none] O1
            ⟨fun ρ3 O3 => ∃ O4, Sub O4 O3 ∧ ∃ X, O4 = [(a, .fz od ws all), (m, X), (p, .ins C (lotF t))] ∧ (X = .dic kvs ∨ ∃ od2 ws2, X = .fz od2 ws2 kvs) ∧ (∀ s ∈ (keys all).take (i + 1), s ∉ keys kvs → ∀ e ∈ keys kvs, liesB e s = false) ∧ ∃ y, ρ3 = [some (.ptr p), some (.ptr m), y, none], (endsOf Φ).rt, fun ρ' O' => Sx B (tRet (tC (.bl true))) ρ' O' (endsOf Φ), fun ρ3 O3 => ∃ O4, Sub O4 O3 ∧ ∃ X, O4 = [(a, .fz od ws all), (m, X), (p, .ins C (lotF t))] ∧ (X = .dic kvs ∨ ∃ od2 ws2, X = .fz od2 ws2 kvs) ∧ (∀ s ∈ (keys all).take (i + 1), s ∉ keys kvs → ∀ e ∈ keys kvs, liesB e s = false) ∧ ∃ y, ρ3 = [some (.ptr p), some (.ptr m), y, none]⟩) := fun od2 ws2 r => by
          refine ev_lst ?_
          walk_at "sk"
          intro e
          refine o_neD (.lst (List.mem_cons_of_mem _ (List.mem_cons_self ..))) (.lst (List.mem_cons_self ..)) shaped_rows (by decide +kernel) ?_
          rw [eqv_nil]
          refine ⟨_, rfl, fun h => ?_, fun h => ?_⟩
          · walk_at "sk"
            refine ⟨[(p, .ins C (lotF t))], sub_cons (sub_cons (sub_cons (sub_cons (sub_refl _)))), q kvs all false hlc hall ⟨(fun e => nomatch e), fun hall2 => ?_⟩⟩
            rw [Bool.not_eq_true', List.isEmpty_eq_false_iff] at h
            obtain ⟨d, hd⟩ := List.exists_mem_of_ne_nil _ h
            obtain ⟨k, hk, _⟩ := List.mem_map.mp hd
            obtain ⟨h1, h2⟩ := List.mem_filter.mp hk
            rw [hall2 s (List.mem_of_getElem? hs) hin k h1] at h2
            exact nomatch h2
          · walk_at "sk"
            refine ⟨_, sub_cons (sub_cons (sub_refl _)), _, rfl, .inr ⟨od2, ws2, rfl⟩, fun u hu hn e he => ?_, _, rfl⟩
            rw [et] at hu
            rcases List.mem_append.mp hu with hu | hu
            · exact hno u hu hn e he
            · rw [List.mem_singleton.mp hu]
              rw [Bool.not_eq_false', List.isEmpty_iff, List.map_eq_nil_iff] at h
              rw [Bool.eq_false_iff]
              intro h2
              have := (List.mem_filter (p := fun e => liesB e s)).mpr ⟨he, h2⟩
              rw [h] at this
              exact nomatch this
        have main : ∀ od2 ws2, ∃ (α : Type) (xs : List α) (κ : α → Kn) (g : α → Option PyData), (kvs.map fun kv => Kn.dat (tupI kv.1)) = xs.map κ ∧ xs.length < 100000 ∧ (∀ q ∈ [(m, Cell.fz od2 ws2 kvs)], q ∈ [(a, .fz od ws all), (m, .fz od2 ws2 kvs), (p, .ins C (lotF t))]) ∧
            (xs.filterMap g = ((keys kvs).filter fun e => liesB e s).map tupI) ∧ ∀ x ∈ xs, Tg B (gName 3) (κ x) [some (.ptr p), some (.ptr m), some (.dat (tupI s)), none] [(a, .fz od ws all), (m, .fz od2 ws2 kvs), (p, .ins C (lotF t))] fun ρ2 O2 => EvT B (tB (tCall (spW 2 w_lies_at) [] E0 (tCons (tVar 3) (tCons (tVar 2) tNil)))) ρ2 O2 fun b O3 => (b = true → Ev B (tVar 3) ρ2 O3 fun y O4 => ∃ d, y = .dat d ∧ g x = some d ∧ Sub [(a, .fz od ws all), (m, .fz od2 ws2 kvs), (p, .ins C (lotF t))] O4) ∧ (b = false → g x = none ∧ Sub [(a, .fz od ws all), (m, .fz od2 ws2 kvs), (p, .ins C (lotF t))] O3) := fun od2 ws2 => by
          refine ⟨Rw, keys kvs, fun k => .dat (tupI k), fun k => if liesB k s then some (tupI k) else none, by unfold keys; rw [List.map_map]; rfl, by unfold keys; rw [List.length_map]; omega, fun q hq => ?_, fm_rows _ _, fun k hk => ?_⟩
          · rw [List.mem_singleton] at hq
            rw [hq]
            simp
          · obtain ⟨u, rfl⟩ := hlc.row hk
            refine tg_name ?_
            walk_at "sk"
            refine ⟨rfl, callK0 ⟨sg t.plV u, s, rfl, by rw [esv, sg_len, sg_len], by rw [sg_len]; omega, rfl, ?_⟩⟩
            refine ⟨_, rfl, fun h => ?_, fun h => ⟨by show (if liesB (sg t.plV u) s = true then _ else _) = _; rw [h]; rfl, sub_refl _⟩⟩
            walk_at "sk"
            exact ⟨by show (if liesB (sg t.plV u) s = true then _ else _) = _; rw [h]; rfl, sub_refl _⟩
        refine ⟨m, kvs, 1, rfl, ?_⟩
        rcases hX with rfl | ⟨od2, ws2, rfl⟩
        · refine .inl ⟨rfl, fun od2 ws2 => ?_⟩
          obtain ⟨α, xs, κ, g, h1, h2, h3, h4, h5⟩ := main od2 ws2
          refine ⟨α, xs, κ, g, h1, h2, h3, h5, fun r => ?_⟩
          rw [h4]
          exact last od2 ws2 r
        · refine .inr ⟨od2, ws2, by simp, ?_⟩
          obtain ⟨α, xs, κ, g, h1, h2, h3, h4, h5⟩ := main od2 ws2
          refine ⟨α, xs, κ, g, h1, h2, h3, h5, fun r => ?_⟩
          rw [h4]
          exact last od2 ws2 r
  · obtain ⟨X, rfl, hX, hno, y, rfl⟩ := hI
    have hlen : (all.map fun kv => Kn.dat (tupI kv.1)).length = (keys all).length := by unfold keys; rw [List.length_map, List.length_map]
    rw [hlen, List.take_length] at hno
    walk_at "sk"
    exact ⟨[(p, .ins C (lotF t))], sub_cons (sub_cons (sub_refl _)), q kvs all true hlc hall ⟨fun _ => hno, fun _ => rfl⟩⟩
end
end Sk


/-! La1: the law's arithmetic -/
namespace Sk
open PySem PySem.Spec PyProof.Rows L2
local macro_rules | `(tactic| walk_at "sk") => `(tactic| repeat' (first
  | ((with_reducible show Ev _ (tVar _) _ _ _); refine ev_var rfl ?_) | with_reducible refine ev_int ?_ | with_reducible refine ev_bl ?_ | with_reducible refine ev_non ?_ | with_reducible refine ev_str ?_ | with_reducible refine ev_ty ?_ | with_reducible refine ev_ref ?_
  | with_reducible refine ev_op ?_ | with_reducible refine ev_un ?_ | with_reducible refine ev_cb ?_ | with_reducible refine ea_cons ?_ | with_reducible refine ea_nil ?_
  | with_reducible refine ev_if ?_ | with_reducible refine ev_and ?_ | with_reducible refine ev_or ?_ | with_reducible refine ev_not ?_ | with_reducible refine ev_tup ?_ | with_reducible refine ev_call ?_
  | with_reducible refine sx_seq ?_ | with_reducible refine sx_asg ?_ | with_reducible refine tg_name ?_ | with_reducible refine sx_ret ?_ | with_reducible refine sx_next ?_ | with_reducible refine sx_drop ?_ | with_reducible refine sx_if ?_
  | with_reducible refine et_chain ?_ | with_reducible refine et_test ?_ | with_reducible refine et_B ?_ | with_reducible refine et_not ?_ | with_reducible refine et_and ?_ | with_reducible refine et_or ?_
  | with_reducible refine o_add ?_ | with_reducible refine o_sub ?_ | with_reducible refine o_lt ?_ | with_reducible refine o_le ?_ | with_reducible refine o_gt ?_ | with_reducible refine o_ge ?_
  | with_reducible refine o_neg ?_ | with_reducible refine o_subB ?_ | with_reducible refine o_mul ?_ ?_
  | ((with_reducible show Op2 _ (rIx _) _ _ _ _); refine o_ix (.tup _) rfl ?_)
  | ((with_reducible show Op2 _ (rEqD _) _ _ _ _); (first | refine o_eqD (.dat _) (.dat _) rfl rfl ?_ | refine o_eqD (.dat _) (.dat _) (by decide +kernel) (by decide +kernel) ?_))
  | ((with_reducible show Op2 _ (rNeD _) _ _ _ _); (first | refine o_neD (.dat _) (.dat _) rfl rfl ?_ | refine o_neD (.dat _) (.dat _) (by decide +kernel) (by decide +kernel) ?_))
  | ((with_reducible show Op2 _ (rIn _ false) _ _ _ _); refine o_in (.tup _) (by rfl) (by rfl) ?_) | ((with_reducible show Op2 _ (rIn _ true) _ _ _ _); refine o_notIn (.tup _) (by rfl) (by rfl) ?_)
  | ((with_reducible show OpC _ (rIsi _) _ _ _); (first | refine oc_isi (b := true) (by rfl) ?_ | refine oc_isi (b := false) (by rfl) ?_))
  | ((with_reducible show OpC _ _ _ _ _); refine oc_len (.tup _) ?_)
  | ((with_reducible show Tg _ (gTup _ _ _) _ _ _ _); (first | with_reducible refine tg_pair ?_ | refine tg_tup rfl ?_)) | ((with_reducible show Tgs _ (gCons _ _) _ _ _ _); refine tgs_cons ?_) | ((with_reducible show Tgs _ gNil _ _ _ _); refine tgs_nil ?_)
  | ((with_reducible show ∃ ds, alld _ ds ∧ _); (first
    | refine ⟨[_, _, _], ⟨rfl, rfl, rfl, trivial⟩, Nat.le_of_ble_eq_true rfl, ?_⟩ | refine ⟨[_, _], ⟨rfl, rfl, trivial⟩, Nat.le_of_ble_eq_true rfl, ?_⟩ | refine ⟨[_], ⟨rfl, trivial⟩, Nat.le_of_ble_eq_true rfl, ?_⟩ | refine ⟨[], trivial, Nat.le_of_ble_eq_true rfl, ?_⟩
    | refine ⟨[_, _, _, _], ⟨rfl, rfl, rfl, rfl, trivial⟩, Nat.le_of_ble_eq_true rfl, ?_⟩ | refine ⟨[_, _, _, _, _], ⟨rfl, rfl, rfl, rfl, rfl, trivial⟩, Nat.le_of_ble_eq_true rfl, ?_⟩ | refine ⟨[_, _, _, _, _, _], ⟨rfl, rfl, rfl, rfl, rfl, rfl, trivial⟩, Nat.le_of_ble_eq_true rfl, ?_⟩
    | refine ⟨[_, _, _, _, _, _, _], ⟨rfl, rfl, rfl, rfl, rfl, rfl, rfl, trivial⟩, Nat.le_of_ble_eq_true rfl, ?_⟩))
  | ((with_reducible show (_ = true → _) ∧ (_ = false → _)); (first | refine pickT rfl ?_ | refine pickF rfl ?_))
  | ((with_reducible show ∃ _, Kn.dat (PyData.bool _) = Kn.dat (PyData.bool _) ∧ _); refine ⟨_, rfl, ?_⟩)
  | ((with_reducible show ∃ _, Kn.dat _ = Kn.dat _ ∧ _); refine ⟨_, rfl, ?_⟩) | fail))

section
variable {P : Program} {w : World} {K : PySem.W.Frag} {mg : Str → Option Value} {base : Heap} {f : Addr} {fd : FuncData}

def w_ldot : WT := fun ks O Φ => ∃ v u : V3, ks = [.dat v.d, .dat u.d] ∧ v.Sm ∧ O = [] ∧ Φ (.dat (.int (v.dot u))) []
theorem cl_law_dot (F : Df K mg "_law_dot" s_law_dot f fd) : Cl P w K mg base "_law_dot" 1 2 w_ldot := by
  have nd := sc_law_dot.nd
  refine cl_of 0 2 F sc_law_dot rfl (fun _ _ _ _ _ _ us hl => match us, hl with | [_, _], _ => rfl) fun cdv A outer s H E hr => ⟨_, (pss_one (ps_ret (pe_op op_add (pe_op op_add (pe_op op_mul (pe_ix (kIx (K := K)) (pv 0) pe_int (fun _ _ => rfl)) (pe_ix (kIx (K := K)) (pv 1) pe_int (fun _ _ => rfl))) (pe_op op_mul (pe_ix (kIx (K := K)) (pv 0) pe_int (fun _ _ => rfl)) (pe_ix (kIx (K := K)) (pv 1) pe_int (fun _ _ => rfl)))) (pe_op op_mul (pe_ix (kIx (K := K)) (pv 0) pe_int (fun _ _ => rfl)) (pe_ix (kIx (K := K)) (pv 1) pe_int (fun _ _ => rfl)))))), ?_⟩
  intro B ks O Φ hl ⟨v, u, e1, hs, e2, q⟩
  subst e1 e2
  walk_at "sk"
  · exact .inl hs.1
  · exact .inl hs.2.1
  · exact .inl hs.2.2
  · exact ⟨_, sub_nil _, q⟩
def w_lcross : WT := fun ks O Φ => ∃ v u : V3, ks = [.dat v.d, .dat u.d] ∧ v.Sm ∧ O = [] ∧ Φ (.dat (v.cross u).d) []
theorem cl_law_cross (F : Df K mg "_law_cross" s_law_cross f fd) : Cl P w K mg base "_law_cross" 1 2 w_lcross := by
  have nd := sc_law_cross.nd
  refine cl_of 0 2 F sc_law_cross rfl (fun _ _ _ _ _ _ us hl => match us, hl with | [_, _], _ => rfl) fun cdv A outer s H E hr => ⟨_, (pss_one (ps_ret (pe_tup (pa_cons (pe_op op_sub (pe_op op_mul (pe_ix (kIx (K := K)) (pv 0) pe_int (fun _ _ => rfl)) (pe_ix (kIx (K := K)) (pv 1) pe_int (fun _ _ => rfl))) (pe_op op_mul (pe_ix (kIx (K := K)) (pv 0) pe_int (fun _ _ => rfl)) (pe_ix (kIx (K := K)) (pv 1) pe_int (fun _ _ => rfl)))) (pa_cons (pe_op op_sub (pe_op op_mul (pe_ix (kIx (K := K)) (pv 0) pe_int (fun _ _ => rfl)) (pe_ix (kIx (K := K)) (pv 1) pe_int (fun _ _ => rfl))) (pe_op op_mul (pe_ix (kIx (K := K)) (pv 0) pe_int (fun _ _ => rfl)) (pe_ix (kIx (K := K)) (pv 1) pe_int (fun _ _ => rfl)))) (pa_cons (pe_op op_sub (pe_op op_mul (pe_ix (kIx (K := K)) (pv 0) pe_int (fun _ _ => rfl)) (pe_ix (kIx (K := K)) (pv 1) pe_int (fun _ _ => rfl))) (pe_op op_mul (pe_ix (kIx (K := K)) (pv 0) pe_int (fun _ _ => rfl)) (pe_ix (kIx (K := K)) (pv 1) pe_int (fun _ _ => rfl)))) pa_nil)))))), ?_⟩
  intro B ks O Φ hl ⟨v, u, e1, hs, e2, q⟩
  subst e1 e2
  walk_at "sk"
  · exact .inl hs.2.1
  · exact .inl hs.2.2
  · exact .inl hs.2.2
  · exact .inl hs.1
  · exact .inl hs.1
  · exact .inl hs.2.1
  · exact ⟨_, sub_nil _, q⟩
def w_lminus : WT := fun ks O Φ => ∃ v : V3, ks = [.dat v.d] ∧ O = [] ∧ Φ (.dat v.neg.d) []
theorem cl_law_minus (T : Bt mg) (F : Df K mg "_law_minus" s_law_minus f fd) : Cl P w K mg base "_law_minus" 1 1 w_lminus := by
  have nd := sc_law_minus.nd
  refine cl_of 0 1 F sc_law_minus rfl (fun _ _ _ _ _ _ us hl => match us, hl with | [_], _ => rfl) fun cdv A outer s H E hr => ⟨_, (pss_one (ps_ret (pe_callTy (kTupleOf (K := K)) (by rfl) T.tuple_ (by decide +kernel) (pa_cons (pe_lc (own := [("_law_number", 1)]) (g := gName 1) (by rfl) nd (kTup (K := K) (pv 0)) (blkOk_by (own := [("_law_number", 1)]) (N := N_law_minus) (sc := defScope s_law_minus) (by decide +kernel)) (fun _ _ _ _ _ => (pg_name (i := 1) nd rfl (Or.inl rfl))) (fun _ _ _ _ _ => pts_nil) (fun _ _ _ _ _ => (pe_un un_neg (pv 1)))) pa_nil)))), ?_⟩
  intro B ks O Φ hl ⟨v, e1, e2, q⟩
  subst e1 e2
  walk_at "sk"
  refine ev_lcF (ei_tup ?_) (own_name (by decide))
  walk_at "sk"
  refine ⟨Int, v.l, fun n => .dat (.int n), fun n => some (.int (-n)), rfl, by simp, (fun q hq => nomatch hq), fun n _ => ?_, fun p => ?_⟩
  · refine tg_name (et_yes ⟨fun _ => ?_, fun e => nomatch e⟩)
    walk_at "sk"
    exact ⟨rfl, sub_refl _⟩
  · walk_at "sk"
    exact oc_tuple (.lst (List.mem_cons_self ..)) (by simp) ⟨_, sub_nil _, q⟩
def w_lby : WT := fun ks O Φ => ∃ (v : V3) (c : Int), ks = [.dat v.d, .dat (.int c)] ∧ (-(2 ^ 64) < c ∧ c < 2 ^ 64) ∧ O = [] ∧ Φ (.dat (V3.sc c v).d) []
theorem cl_law_by (T : Bt mg) (F : Df K mg "_law_by" s_law_by f fd) : Cl P w K mg base "_law_by" 1 2 w_lby := by
  have nd := sc_law_by.nd
  refine cl_of 0 2 F sc_law_by rfl (fun _ _ _ _ _ _ us hl => match us, hl with | [_, _], _ => rfl) fun cdv A outer s H E hr => ⟨_, (pss_one (ps_ret (pe_callTy (kTupleOf (K := K)) (by rfl) T.tuple_ (by decide +kernel) (pa_cons (pe_lc (own := [("_law_number", 2)]) (g := gName 2) (by rfl) nd (kTup (K := K) (pv 0)) (blkOk_by (own := [("_law_number", 2)]) (N := N_law_by) (sc := defScope s_law_by) (by decide +kernel)) (fun _ _ _ _ _ => (pg_name (i := 2) nd rfl (Or.inl rfl))) (fun _ _ _ _ _ => pts_nil) (fun _ _ _ _ _ => (pe_op op_mul (pv 2) (pv 1)))) pa_nil)))), ?_⟩
  intro B ks O Φ hl ⟨v, c, e1, hc, e2, q⟩
  subst e1 e2
  walk_at "sk"
  refine ev_lcF (ei_tup ?_) (own_name (by decide))
  walk_at "sk"
  refine ⟨Int, v.l, fun n => .dat (.int n), fun n => some (.int (n * c)), rfl, by simp, (fun q hq => nomatch hq), fun n _ => ?_, fun p => ?_⟩
  · refine tg_name (et_yes ⟨fun _ => ?_, fun e => nomatch e⟩)
    walk_at "sk"
    · exact .inr hc
    · exact ⟨rfl, sub_refl _⟩
  · walk_at "sk"
    refine oc_tuple (.lst (List.mem_cons_self ..)) (by simp) ⟨_, sub_nil _, ?_⟩
    have e : (V3.sc c v).d = .tuple [.int (v.x * c), .int (v.y * c), .int (v.z * c)] := by
      unfold V3.sc
      simp only [V3.d, Int.mul_comm]
    rw [e] at q
    exact q
def w_lsign : WT := fun ks O Φ => ∃ n : Int, ks = [.dat (.int n)] ∧ O = [] ∧ Φ (.dat (.int n.sign)) []
theorem cl_law_sign (T : Bt mg) (F : Df K mg "_law_sign" s_law_sign f fd) : Cl P w K mg base "_law_sign" 1 1 w_lsign := by
  have nd := sc_law_sign.nd
  refine cl_of 0 1 F sc_law_sign rfl (fun _ _ _ _ _ _ us hl => match us, hl with | [_], _ => rfl) fun cdv A outer s H E hr => ⟨_, (pss_one (ps_ret (pe_op op_sub (pe_callTy call_int1 (by rfl) T.int_ (by decide +kernel) (pa_cons (pe_cmpR op_gt (pv 0) pe_int (nomark _)) pa_nil)) (pe_callTy call_int1 (by rfl) T.int_ (by decide +kernel) (pa_cons (pe_cmpR op_lt (pv 0) pe_int (nomark _)) pa_nil))))), ?_⟩
  intro B ks O Φ hl ⟨n, e1, e2, q⟩
  subst e1 e2
  walk_at "sk"
  refine oc_intB ?_
  walk_at "sk"
  refine oc_intB ?_
  walk_at "sk"
  have e := sign_b2i n
  unfold b2i at e
  rw [e]
  exact ⟨_, sub_nil _, q⟩

/-! ### Euclid -/
theorem eu_gcd {a b : Int} (ha : 0 ≤ a) (hb : 0 < b) : gI b (a % b) = gI a b := by
  unfold gI
  have e : (a % b).natAbs = a.natAbs % b.natAbs := by
    rw [Int.natAbs_emod_of_nonneg ha]
  rw [e, Nat.gcd_comm, ← Nat.gcd_rec, Nat.gcd_comm]
theorem eu_step {a b : Int} (hb : 0 < b) (hab : b < a) : 2 * (a % b) ≤ a := by
  have h1 := Int.emod_lt_of_pos a hb
  have h0 := Int.emod_nonneg a (by omega : b ≠ 0)
  by_cases h : 2 * b ≤ a
  · omega
  · have : a % b = a - b := by
      rw [← Int.sub_emod_right]
      exact Int.emod_eq_of_lt (by omega) (by omega)
    omega
/-- where the loop stands at turn i -/
def Eu (a b : Int) (i : Nat) (x y : Int) : Prop := 0 ≤ x ∧ 0 ≤ y ∧ gI x y = gI a b ∧ (i = 0 ∧ x = a ∧ y = b ∨ 0 < i ∧ y < x ∧ x * y * 2 ^ (i - 1) < 2 ^ 400)
theorem Eu.next {a b x y : Int} {i : Nat} (h : Eu a b i x y) (hy : y ≠ 0) (ha : a < 2 ^ 160) (hb : b < 2 ^ 160) : Eu a b (i + 1) y (x % y) := by
  obtain ⟨h1, h2, h3, h4⟩ := h
  have hy0 : 0 < y := by omega
  have m0 := Int.emod_nonneg x hy
  have m1 := Int.emod_lt_of_pos x hy0
  refine ⟨h2, m0, (eu_gcd h1 hy0).trans h3, .inr ⟨by omega, m1, ?_⟩⟩
  rcases h4 with ⟨rfl, rfl, rfl⟩ | ⟨hi, hyx, hp⟩
  · simp only [Nat.zero_add, Nat.sub_self, Int.pow_zero, Int.mul_one]
    have : y * (x % y) < 2 ^ 160 * 2 ^ 160 := by
      refine Int.lt_of_le_of_lt (Int.mul_le_mul_of_nonneg_left (Int.le_of_lt m1) h2) ?_
      exact Int.lt_of_le_of_lt (Int.mul_le_mul_of_nonneg_right (Int.le_of_lt hb) h2) (Int.mul_lt_mul_of_pos_left hb (by decide))
    exact Int.lt_trans this (by decide)
  · have e : i + 1 - 1 = (i - 1) + 1 := by omega
    rw [e, Int.pow_succ]
    have h5 := eu_step hy0 hyx
    have hpos : (0 : Int) ≤ 2 ^ (i - 1) := Int.pow_nonneg (by decide)
    refine Int.lt_of_le_of_lt ?_ hp
    have : y * (x % y) * (2 ^ (i - 1) * 2) = (y * (2 * (x % y))) * 2 ^ (i - 1) := by
      generalize (2 : Int) ^ (i - 1) = N
      grind
    rw [this]
    refine Int.mul_le_mul_of_nonneg_right ?_ hpos
    rw [Int.mul_comm x y]
    exact Int.mul_le_mul_of_nonneg_left h5 h2
theorem Eu.last {a b x y : Int} (h : Eu a b 20000 x y) : y = 0 := by
  obtain ⟨h1, h2, h3, h4⟩ := h
  rcases h4 with ⟨h, _⟩ | ⟨_, hyx, hp⟩
  · exact nomatch h
  · refine Classical.byContradiction fun hy => ?_
    have hxy : 1 ≤ x * y := by
      have := Int.mul_pos (by omega : 0 < x) (by omega : 0 < y)
      omega
    have h6 : (2 : Int) ^ 19999 ≤ x * y * 2 ^ 19999 := by
      have := Int.mul_le_mul_of_nonneg_right hxy (Int.pow_nonneg (n := 2) (m := 19999) (by decide))
      rw [Int.one_mul] at this
      exact this
    have h7 : (2 : Int) ^ 400 ≤ 2 ^ 19999 := by
      have := Nat.pow_le_pow_right (n := 2) (by decide) (by decide : 400 ≤ 19999)
      exact_mod_cast this
    exact absurd (Int.lt_of_le_of_lt (Int.le_trans h7 h6) hp) (Int.lt_irrefl _)
theorem Eu.gcd {a b x : Int} {i : Nat} (h : Eu a b i x 0) : x = gI a b := by
  obtain ⟨h1, _, h3, _⟩ := h
  rw [← h3]
  unfold gI
  simp
  omega
def w_lgcd : WT := fun ks O Φ => ∃ a b : Int, ks = [.dat (.int a), .dat (.int b)] ∧ 0 ≤ a ∧ 0 ≤ b ∧ a < 2 ^ 160 ∧ b < 2 ^ 160 ∧ O = [] ∧ Φ (.dat (.int (gI a b))) []
theorem cl_law_gcd (T : Bt mg) (F : Df K mg "_law_gcd" s_law_gcd f fd) : Cl P w K mg base "_law_gcd" 1 2 w_lgcd := by
  have nd := sc_law_gcd.nd
  refine cl_of 0 2 F sc_law_gcd rfl (fun _ _ _ _ _ _ us hl => match us, hl with | [_, _], _ => rfl) fun cdv A outer s H E hr => ⟨_, (pss_cons (ps_for PassesOwn.never rfl (pi_range1 (by rfl) T.range_ (pa_cons pe_int pa_nil)) (pg_name (i := 2) nd rfl (Or.inl rfl)) (pss_cons (ps_if (pt_cmpR (kEqD (K := K) hr.units) (pv 1) pe_int (nomark _)) (pss_one ps_break) pss_nil)
      (pss_one (ps_par (i := 0) (j := 1) (by rfl) nd rfl rfl (by decide) rfl rfl (pa_cons (pv 1) (pa_cons (pe_op op_mod (pe_callTy call_int1 (by rfl) T.int_ (by decide +kernel) (pa_cons (pv 0) pa_nil)) (pv 1)) pa_nil)) (by rfl)))))
      (pss_one (ps_ret (pv 0)))), ?_⟩
  intro B ks O Φ hl ⟨a, b, e1, ha, hb, ha2, hb2, e2, q⟩
  subst e1 e2
  walk_at "sk"
  refine sx_for (ei_rng1 ?_)
  walk_at "sk"
  refine ⟨20000, rfl, by decide, by decide, fun i ρ' O' => O' = [] ∧ ∃ x y z, Eu a b i x y ∧ ρ' = [some (.dat (.int x)), some (.dat (.int y)), z],
    ⟨rfl, a, b, _, ⟨ha, hb, rfl, .inl ⟨rfl, rfl, rfl⟩⟩, rfl⟩, (fun _ _ _ _ _ q hq => nomatch hq), fun i k ρ' O' hk hI => ?_, fun ρ' O' hI => ?_⟩
  · obtain ⟨rfl, x, y, z, he, rfl⟩ := hI
    refine tg_name ?_
    walk_at "sk"
    rw [eqv_int]
    refine ⟨fun h => ?_, fun h => ?_⟩
    · have hy : y = 0 := by simpa using h
      subst hy
      refine sx_break ?_
      walk_at "sk"
      rw [he.gcd]
      exact ⟨_, sub_nil _, q⟩
    · have hy : y ≠ 0 := by simpa using h
      have hy0 : 0 < y := by have := he.2.1; omega
      walk_at "sk"
      refine sx_par2 (by decide) ?_
      walk_at "sk"
      refine oc_intI ?_
      walk_at "sk"
      refine o_mod hy0 ?_
      walk_at "sk"
      refine ⟨_, _, rfl, [], sub_refl _, rfl, y, x % y, _, he.next hy ha2 hb2, rfl⟩
  · obtain ⟨rfl, x, y, z, he, rfl⟩ := hI
    have e : ((List.range (20000 : Int).toNat).map fun (i : Nat) => Kn.dat (.int (0 + (i : Int)))).length = 20000 := by rw [List.length_map, List.length_range]; rfl
    rw [e] at he
    have hy := he.last
    subst hy
    walk_at "sk"
    rw [he.gcd]
    exact ⟨_, sub_nil _, q⟩
end
end Sk


/-! La2: the law's rays -/
namespace Sk
open PySem PySem.Spec PyProof.Rows L2
local macro_rules | `(tactic| walk_at "sk") => `(tactic| repeat' (first
  | ((with_reducible show Ev _ (tVar _) _ _ _); refine ev_var rfl ?_) | with_reducible refine ev_int ?_ | with_reducible refine ev_bl ?_ | with_reducible refine ev_non ?_ | with_reducible refine ev_str ?_ | with_reducible refine ev_ty ?_ | with_reducible refine ev_ref ?_
  | with_reducible refine ev_op ?_ | with_reducible refine ev_un ?_ | with_reducible refine ev_cb ?_ | with_reducible refine ea_cons ?_ | with_reducible refine ea_nil ?_
  | with_reducible refine ev_if ?_ | with_reducible refine ev_and ?_ | with_reducible refine ev_or ?_ | with_reducible refine ev_not ?_ | with_reducible refine ev_tup ?_ | with_reducible refine ev_call ?_
  | with_reducible refine sx_seq ?_ | with_reducible refine sx_asg ?_ | with_reducible refine tg_name ?_ | with_reducible refine sx_ret ?_ | with_reducible refine sx_next ?_ | with_reducible refine sx_drop ?_ | with_reducible refine sx_if ?_
  | with_reducible refine et_chain ?_ | with_reducible refine et_test ?_ | with_reducible refine et_B ?_ | with_reducible refine et_not ?_ | with_reducible refine et_and ?_ | with_reducible refine et_or ?_
  | with_reducible refine o_add ?_ | with_reducible refine o_sub ?_ | with_reducible refine o_lt ?_ | with_reducible refine o_le ?_ | with_reducible refine o_gt ?_ | with_reducible refine o_ge ?_
  | with_reducible refine o_neg ?_ | with_reducible refine o_subB ?_ | with_reducible refine o_mul ?_ ?_
  | ((with_reducible show Op2 _ (rIx _) _ _ _ _); refine o_ix (.tup _) rfl ?_)
  | ((with_reducible show Op2 _ (rEqD _) _ _ _ _); (first | refine o_eqD (.dat _) (.dat _) rfl rfl ?_ | refine o_eqD (.dat _) (.dat _) (by decide +kernel) (by decide +kernel) ?_))
  | ((with_reducible show Op2 _ (rNeD _) _ _ _ _); (first | refine o_neD (.dat _) (.dat _) rfl rfl ?_ | refine o_neD (.dat _) (.dat _) (by decide +kernel) (by decide +kernel) ?_))
  | ((with_reducible show Op2 _ (rIn _ false) _ _ _ _); refine o_in (.tup _) (by rfl) (by rfl) ?_) | ((with_reducible show Op2 _ (rIn _ true) _ _ _ _); refine o_notIn (.tup _) (by rfl) (by rfl) ?_)
  | ((with_reducible show OpC _ (rIsi _) _ _ _); (first | refine oc_isi (b := true) (by rfl) ?_ | refine oc_isi (b := false) (by rfl) ?_))
  | ((with_reducible show OpC _ _ _ _ _); refine oc_len (.tup _) ?_)
  | ((with_reducible show Tg _ (gTup _ _ _) _ _ _ _); (first | with_reducible refine tg_pair ?_ | refine tg_tup rfl ?_)) | ((with_reducible show Tgs _ (gCons _ _) _ _ _ _); refine tgs_cons ?_) | ((with_reducible show Tgs _ gNil _ _ _ _); refine tgs_nil ?_)
  | ((with_reducible show ∃ ds, alld _ ds ∧ _); (first
    | refine ⟨[_, _, _], ⟨rfl, rfl, rfl, trivial⟩, Nat.le_of_ble_eq_true rfl, ?_⟩ | refine ⟨[_, _], ⟨rfl, rfl, trivial⟩, Nat.le_of_ble_eq_true rfl, ?_⟩ | refine ⟨[_], ⟨rfl, trivial⟩, Nat.le_of_ble_eq_true rfl, ?_⟩ | refine ⟨[], trivial, Nat.le_of_ble_eq_true rfl, ?_⟩
    | refine ⟨[_, _, _, _], ⟨rfl, rfl, rfl, rfl, trivial⟩, Nat.le_of_ble_eq_true rfl, ?_⟩ | refine ⟨[_, _, _, _, _], ⟨rfl, rfl, rfl, rfl, rfl, trivial⟩, Nat.le_of_ble_eq_true rfl, ?_⟩ | refine ⟨[_, _, _, _, _, _], ⟨rfl, rfl, rfl, rfl, rfl, rfl, trivial⟩, Nat.le_of_ble_eq_true rfl, ?_⟩
    | refine ⟨[_, _, _, _, _, _, _], ⟨rfl, rfl, rfl, rfl, rfl, rfl, rfl, trivial⟩, Nat.le_of_ble_eq_true rfl, ?_⟩))
  | ((with_reducible show (_ = true → _) ∧ (_ = false → _)); (first | refine pickT rfl ?_ | refine pickF rfl ?_))
  | ((with_reducible show ∃ _, Kn.dat (PyData.bool _) = Kn.dat (PyData.bool _) ∧ _); refine ⟨_, rfl, ?_⟩)
  | ((with_reducible show ∃ _, Kn.dat _ = Kn.dat _ ∧ _); refine ⟨_, rfl, ?_⟩) | fail))

section
variable {P : Program} {w : World} {K : PySem.W.Frag} {mg : Str → Option Value} {base : Heap} {f : Addr} {fd : FuncData}

def V3.red (v : V3) : V3 := if v.nz then v.low else v
theorem gI_lt {a b : Int} {m : Nat} (ha : a.natAbs < 2 ^ m) (hb : b.natAbs < 2 ^ m) : gI a b < 2 ^ m ∧ 0 ≤ gI a b := by
  unfold gI
  have h : Nat.gcd a.natAbs b.natAbs < 2 ^ m := by
    rcases Nat.eq_zero_or_pos b.natAbs with h | h
    · rw [h, Nat.gcd_zero_right]; exact ha
    · exact Nat.lt_of_le_of_lt (Nat.gcd_le_right _ h) hb
  refine ⟨?_, by omega⟩
  exact_mod_cast h
theorem abs_nat (n : Int) : (if n < 0 then -n else n) = (n.natAbs : Int) := by split <;> omega
theorem gI_abs (a b : Int) : gI a (b.natAbs : Int) = gI a b := by unfold gI; rw [Int.natAbs_natCast]
theorem red_low {v : V3} (h : v.nz) : v.red = v.low := if_pos h
theorem red_of_lt {v : V3} (h : v.g < 2) : v.red = v := by
  unfold V3.red
  by_cases hz : v.nz
  · rw [if_pos hz]
    have := V3.g_pos hz
    exact (V3.prim_of (by omega)).low
  · rw [if_neg hz]
theorem red_of_ge {v : V3} (h : ¬ v.g < 2) : v.red = v.low := by
  refine red_low fun e => ?_
  rw [V3.g_zero (fun n => n e)] at h
  exact h (by decide)
/-- the divisor so far -/
theorem gcd_take {v : V3} {i : Nat} {n : Int} (h : v.l[i]? = some n) : gI (gcdI (v.l.take i)) n = gcdI (v.l.take (i + 1)) := by
  rw [List.take_add_one, h]
  unfold gcdI
  rw [Option.toList_some, List.foldl_append]
  rfl
theorem gcdI_bd {m : Nat} : ∀ {ns : List Int} {a : Int}, a.natAbs < 2 ^ m → (∀ n ∈ ns, n.natAbs < 2 ^ m) → (ns.foldl gI a).natAbs < 2 ^ m
  | [], _, ha, _ => ha
  | n :: ns, a, ha, h => by
    have := gI_lt ha (h n (List.mem_cons_self ..))
    refine gcdI_bd (ns := ns) (a := gI a n) ?_ fun k hk => h k (List.mem_cons_of_mem _ hk)
    have e : gI a n = ((gI a n).natAbs : Int) := by omega
    have h1 := this.1
    rw [e] at h1
    exact_mod_cast h1
theorem gcdI_nn (ns : List Int) : 0 ≤ gcdI ns := by
  unfold gcdI
  suffices h : ∀ a : Int, 0 ≤ a → 0 ≤ ns.foldl gI a from h 0 (by decide)
  induction ns with
  | nil => exact fun a h => h
  | cons n ns ih => exact fun a _ => ih _ (by unfold gI; omega)
theorem nat_lt_int {a : Int} {m : Nat} (h0 : 0 ≤ a) (h : a.natAbs < 2 ^ m) : a < 2 ^ m := by
  have e : a = (a.natAbs : Int) := by omega
  rw [e]
  exact_mod_cast h
def w_lreduced : WT := fun ks O Φ => ∃ v : V3, ks = [.dat v.d] ∧ v.Bd 150 ∧ O = [] ∧ Φ (.dat v.red.d) []
theorem bd_mem {v : V3} {m : Nat} (h : v.Bd m) : ∀ n ∈ v.l, n.natAbs < 2 ^ m := fun n hn => by
  simp only [List.mem_cons, List.not_mem_nil, or_false] at hn
  rcases hn with rfl | rfl | rfl
  · exact h.1
  · exact h.2.1
  · exact h.2.2
theorem mem_take {v : V3} {m i : Nat} (h : v.Bd m) : (gcdI (v.l.take i)).natAbs < 2 ^ m := gcdI_bd (Nat.pow_pos (by decide)) fun n hn => bd_mem h n (List.mem_of_mem_take hn)
theorem cl_law_reduced (T : Bt mg) (F : Df K mg "_law_reduced" s_law_reduced f fd) (C_law_gcd : Cl P w K mg base "_law_gcd" 1 2 w_lgcd) : Cl P w K mg base "_law_reduced" 2 1 w_lreduced := by
  have nd := sc_law_reduced.nd
  refine cl_of 1 1 F sc_law_reduced rfl (fun _ _ _ _ _ _ us hl => match us, hl with | [_], _ => rfl) fun cdv A outer s H E hr => ⟨_, (pss_cons (ps_set (i := 1) nd rfl (Or.inr rfl) pe_int)
      (pss_cons (ps_for PassesOwn.never rfl (kTup (K := K) (pv 0)) (pg_name (i := 2) nd rfl (Or.inl rfl)) (pss_one (ps_set (i := 1) nd rfl (Or.inr rfl) (pe_cl C_law_gcd (hr.mono (by decide)) (by rfl) (pa_cons (pv 1) (pa_cons (pe_callB call_abs (by rfl) T.abs_ (by decide +kernel) (pa_cons (pv 2) pa_nil)) pa_nil))))))
      (pss_one (ps_ret (pe_ifExp (pt_cmpR op_lt (pv 1) pe_int (nomark _)) (pe_callTy (kTupleOf (K := K)) (by rfl) T.tuple_ (by decide +kernel) (pa_cons (pv 0) pa_nil)) (pe_callTy (kTupleOf (K := K)) (by rfl) T.tuple_ (by decide +kernel) (pa_cons (pe_lc (own := [("_law_number", 2)]) (g := gName 2) (by rfl) nd (kTup (K := K) (pv 0)) (blkOk_by (own := [("_law_number", 2)]) (N := N_law_reduced) (sc := defScope s_law_reduced) (by decide +kernel)) (fun _ _ _ _ _ => (pg_name (i := 2) nd rfl (Or.inl rfl))) (fun _ _ _ _ _ => pts_nil) (fun _ _ _ _ _ => (pe_op op_fdivW (pv 2) (pv 1)))) pa_nil))))))), ?_⟩
  intro B ks O Φ hl ⟨v, e1, hb, e2, q⟩
  subst e1 e2
  walk_at "sk"
  refine sx_for (ei_tup ?_)
  walk_at "sk"
  refine ⟨fun i ρ' O' => O' = [] ∧ ∃ y, ρ' = [some (.dat v.d), some (.dat (.int (gcdI (v.l.take i)))), y], ⟨rfl, _, rfl⟩, (fun _ _ _ _ _ q hq => nomatch hq), fun i k ρ' O' hk hI => ?_, fun ρ' O' hI => ?_⟩
  · obtain ⟨rfl, y, rfl⟩ := hI
    obtain ⟨n, hn, rfl⟩ := map_dat_at (ns := v.l) hk
    have hnb := bd_mem hb n (List.mem_of_getElem? hn)
    have hcb := mem_take (i := i) hb
    walk_at "sk"
    refine oc_abs ?_
    rw [abs_nat]
    walk_at "sk"
    refine ⟨rfl, callK0 ⟨_, _, rfl, gcdI_nn _, by omega, Int.lt_of_lt_of_le (nat_lt_int (gcdI_nn _) hcb) (by decide), Int.lt_of_lt_of_le (by exact_mod_cast hnb : (n.natAbs : Int) < 2 ^ 150) (by decide), rfl, ?_⟩⟩
    rw [gI_abs, gcd_take hn]
    walk_at "sk"
    exact ⟨[], sub_refl _, rfl, _, rfl⟩
  · obtain ⟨rfl, y, rfl⟩ := hI
    have eg : gcdI (v.l.take (([PyData.int v.x, PyData.int v.y, PyData.int v.z].map Kn.dat).length)) = v.g := rfl
    rw [eg]
    walk_at "sk"
    refine ⟨fun h => ?_, fun h => ?_⟩
    · have h := of_decide_eq_true h
      rw [red_of_lt h] at q
      walk_at "sk"
      exact oc_tuple (.tup _) (by show 3 ≤ 100000; decide) ⟨_, sub_nil _, q⟩
    · have h := of_decide_eq_false h
      rw [red_of_ge h] at q
      walk_at "sk"
      refine ev_lcF (ei_tup ?_) (own_name (by decide))
      walk_at "sk"
      refine ⟨Int, v.l, fun n => .dat (.int n), fun n => some (.int (n / v.g)), rfl, by simp, (fun q hq => nomatch hq), fun n _ => ?_, fun p => ?_⟩
      · refine tg_name (et_yes ⟨fun _ => ?_, fun e => nomatch e⟩)
        walk_at "sk"
        refine o_fdivW ⟨by omega, ?_⟩ ?_
        · refine PySem.Flt.log2_lt_of (by decide) ?_
          exact Nat.lt_of_lt_of_le (mem_take (i := 3) hb) (Nat.pow_le_pow_right (by decide) (by decide))
        · exact ⟨_, rfl, rfl, sub_refl _⟩
      · walk_at "sk"
        exact oc_tuple (.lst (List.mem_cons_self ..)) (by simp) ⟨_, sub_nil _, q⟩
/-- the same of a list -/
def w_lreducedL : WT := fun ks O Φ => ∃ (v : V3) (a : Addr), ks = [.ptr a] ∧ v.Bd 150 ∧ O = [(a, .lst [.int v.x, .int v.y, .int v.z])] ∧ Φ (.dat v.red.d) []
theorem cl_law_reducedL (T : Bt mg) (F : Df K mg "_law_reduced" s_law_reduced f fd) (C_law_gcd : Cl P w K mg base "_law_gcd" 1 2 w_lgcd) : Cl P w K mg base "_law_reduced" 2 1 w_lreducedL := by
  have nd := sc_law_reduced.nd
  refine cl_of 1 1 F sc_law_reduced rfl (fun _ _ _ _ _ _ us hl => match us, hl with | [_], _ => rfl) fun cdv A outer s H E hr => ⟨_, (pss_cons (ps_set (i := 1) nd rfl (Or.inr rfl) pe_int)
      (pss_cons (ps_for PassesOwn.never rfl (kList (K := K) (pv 0)) (pg_name (i := 2) nd rfl (Or.inl rfl)) (pss_one (ps_set (i := 1) nd rfl (Or.inr rfl) (pe_cl C_law_gcd (hr.mono (by decide)) (by rfl) (pa_cons (pv 1) (pa_cons (pe_callB call_abs (by rfl) T.abs_ (by decide +kernel) (pa_cons (pv 2) pa_nil)) pa_nil))))))
      (pss_one (ps_ret (pe_ifExp (pt_cmpR op_lt (pv 1) pe_int (nomark _)) (pe_callTy (kTupleOf (K := K)) (by rfl) T.tuple_ (by decide +kernel) (pa_cons (pv 0) pa_nil)) (pe_callTy (kTupleOf (K := K)) (by rfl) T.tuple_ (by decide +kernel) (pa_cons (pe_lc (own := [("_law_number", 2)]) (g := gName 2) (by rfl) nd (kList (K := K) (pv 0)) (blkOk_by (own := [("_law_number", 2)]) (N := N_law_reduced) (sc := defScope s_law_reduced) (by decide +kernel)) (fun _ _ _ _ _ => (pg_name (i := 2) nd rfl (Or.inl rfl))) (fun _ _ _ _ _ => pts_nil) (fun _ _ _ _ _ => (pe_op op_fdivW (pv 2) (pv 1)))) pa_nil))))))), ?_⟩
  intro B ks O Φ hl ⟨v, a, e1, hb, e2, q⟩
  subst e1 e2
  walk_at "sk"
  refine sx_for (ei_list ?_)
  walk_at "sk"
  refine ⟨a, _, rfl, List.mem_cons_self .., fun i ρ' O' => O' = [(a, .lst [.int v.x, .int v.y, .int v.z])] ∧ ∃ y, ρ' = [some (.ptr a), some (.dat (.int (gcdI (v.l.take i)))), y], ⟨rfl, _, rfl⟩, fun i ρ' O' _ hI q hq => ?_, fun i k ρ' O' hk hI => ?_, fun ρ' O' hI => ?_⟩
  · obtain ⟨rfl, _⟩ := hI
    exact hq
  · obtain ⟨rfl, y, rfl⟩ := hI
    obtain ⟨n, hn, rfl⟩ := map_dat_at (ns := v.l) hk
    have hnb := bd_mem hb n (List.mem_of_getElem? hn)
    have hcb := mem_take (i := i) hb
    walk_at "sk"
    refine oc_abs ?_
    rw [abs_nat]
    walk_at "sk"
    refine ⟨rfl, callK0 ⟨_, _, rfl, gcdI_nn _, by omega, Int.lt_of_lt_of_le (nat_lt_int (gcdI_nn _) hcb) (by decide), Int.lt_of_lt_of_le (by exact_mod_cast hnb : (n.natAbs : Int) < 2 ^ 150) (by decide), rfl, ?_⟩⟩
    rw [gI_abs, gcd_take hn]
    walk_at "sk"
    exact ⟨_, sub_refl _, rfl, _, rfl⟩
  · obtain ⟨rfl, y, rfl⟩ := hI
    have eg : gcdI (v.l.take (([PyData.int v.x, PyData.int v.y, PyData.int v.z].map Kn.dat).length)) = v.g := rfl
    rw [eg]
    walk_at "sk"
    refine ⟨fun h => ?_, fun h => ?_⟩
    · have h := of_decide_eq_true h
      rw [red_of_lt h] at q
      walk_at "sk"
      exact oc_tuple (.lst (List.mem_cons_self ..)) (by show 3 ≤ 100000; decide) ⟨_, sub_nil _, q⟩
    · have h := of_decide_eq_false h
      rw [red_of_ge h] at q
      walk_at "sk"
      refine ev_lcF (ei_list ?_) (own_name (by decide))
      walk_at "sk"
      refine ⟨a, _, rfl, List.mem_cons_self .., Int, v.l, fun n => .dat (.int n), fun n => some (.int (n / v.g)), rfl, by simp, fun q hq => hq, fun n _ => ?_, fun p => ?_⟩
      · refine tg_name (et_yes ⟨fun _ => ?_, fun e => nomatch e⟩)
        walk_at "sk"
        refine o_fdivW ⟨by omega, ?_⟩ ?_
        · refine PySem.Flt.log2_lt_of (by decide) ?_
          exact Nat.lt_of_lt_of_le (mem_take (i := 3) hb) (Nat.pow_le_pow_right (by decide) (by decide))
        · exact ⟨_, rfl, rfl, sub_refl _⟩
      · walk_at "sk"
        exact oc_tuple (.lst (List.mem_cons_self ..)) (by simp) ⟨_, sub_nil _, q⟩
end
end Sk


/-! La3: rims, signs, rays, limits -/
namespace Sk
open PySem PySem.Spec PyProof.Rows L2
local macro_rules | `(tactic| walk_at "sk") => `(tactic| repeat' (first
  | ((with_reducible show Ev _ (tVar _) _ _ _); refine ev_var rfl ?_) | with_reducible refine ev_int ?_ | with_reducible refine ev_bl ?_ | with_reducible refine ev_non ?_ | with_reducible refine ev_str ?_ | with_reducible refine ev_ty ?_ | with_reducible refine ev_ref ?_
  | with_reducible refine ev_op ?_ | with_reducible refine ev_un ?_ | with_reducible refine ev_cb ?_ | with_reducible refine ea_cons ?_ | with_reducible refine ea_nil ?_
  | with_reducible refine ev_if ?_ | with_reducible refine ev_and ?_ | with_reducible refine ev_or ?_ | with_reducible refine ev_not ?_ | with_reducible refine ev_tup ?_ | with_reducible refine ev_call ?_
  | with_reducible refine sx_seq ?_ | with_reducible refine sx_asg ?_ | with_reducible refine tg_name ?_ | with_reducible refine sx_ret ?_ | with_reducible refine sx_next ?_ | with_reducible refine sx_drop ?_ | with_reducible refine sx_if ?_
  | with_reducible refine et_chain ?_ | with_reducible refine et_test ?_ | with_reducible refine et_B ?_ | with_reducible refine et_not ?_ | with_reducible refine et_and ?_ | with_reducible refine et_or ?_
  | with_reducible refine o_add ?_ | with_reducible refine o_sub ?_ | with_reducible refine o_lt ?_ | with_reducible refine o_le ?_ | with_reducible refine o_gt ?_ | with_reducible refine o_ge ?_
  | with_reducible refine o_neg ?_ | with_reducible refine o_subB ?_ | with_reducible refine o_mul ?_ ?_
  | ((with_reducible show Op2 _ (rIx _) _ _ _ _); refine o_ix (.tup _) rfl ?_)
  | ((with_reducible show Op2 _ (rEqD _) _ _ _ _); (first | refine o_eqD (.dat _) (.dat _) rfl rfl ?_ | refine o_eqD (.dat _) (.dat _) (by decide +kernel) (by decide +kernel) ?_))
  | ((with_reducible show Op2 _ (rNeD _) _ _ _ _); (first | refine o_neD (.dat _) (.dat _) rfl rfl ?_ | refine o_neD (.dat _) (.dat _) (by decide +kernel) (by decide +kernel) ?_))
  | ((with_reducible show Op2 _ (rIn _ false) _ _ _ _); refine o_in (.tup _) (by rfl) (by rfl) ?_) | ((with_reducible show Op2 _ (rIn _ true) _ _ _ _); refine o_notIn (.tup _) (by rfl) (by rfl) ?_)
  | ((with_reducible show OpC _ (rIsi _) _ _ _); (first | refine oc_isi (b := true) (by rfl) ?_ | refine oc_isi (b := false) (by rfl) ?_))
  | ((with_reducible show OpC _ _ _ _ _); refine oc_len (.tup _) ?_)
  | ((with_reducible show Tg _ (gTup _ _ _) _ _ _ _); (first | with_reducible refine tg_pair ?_ | refine tg_tup rfl ?_)) | ((with_reducible show Tgs _ (gCons _ _) _ _ _ _); refine tgs_cons ?_) | ((with_reducible show Tgs _ gNil _ _ _ _); refine tgs_nil ?_)
  | ((with_reducible show ∃ ds, alld _ ds ∧ _); (first
    | refine ⟨[_, _, _], ⟨rfl, rfl, rfl, trivial⟩, Nat.le_of_ble_eq_true rfl, ?_⟩ | refine ⟨[_, _], ⟨rfl, rfl, trivial⟩, Nat.le_of_ble_eq_true rfl, ?_⟩ | refine ⟨[_], ⟨rfl, trivial⟩, Nat.le_of_ble_eq_true rfl, ?_⟩ | refine ⟨[], trivial, Nat.le_of_ble_eq_true rfl, ?_⟩
    | refine ⟨[_, _, _, _], ⟨rfl, rfl, rfl, rfl, trivial⟩, Nat.le_of_ble_eq_true rfl, ?_⟩ | refine ⟨[_, _, _, _, _], ⟨rfl, rfl, rfl, rfl, rfl, trivial⟩, Nat.le_of_ble_eq_true rfl, ?_⟩ | refine ⟨[_, _, _, _, _, _], ⟨rfl, rfl, rfl, rfl, rfl, rfl, trivial⟩, Nat.le_of_ble_eq_true rfl, ?_⟩
    | refine ⟨[_, _, _, _, _, _, _], ⟨rfl, rfl, rfl, rfl, rfl, rfl, rfl, trivial⟩, Nat.le_of_ble_eq_true rfl, ?_⟩))
  | ((with_reducible show (_ = true → _) ∧ (_ = false → _)); (first | refine pickT rfl ?_ | refine pickF rfl ?_))
  | ((with_reducible show ∃ _, Kn.dat (PyData.bool _) = Kn.dat (PyData.bool _) ∧ _); refine ⟨_, rfl, ?_⟩)
  | ((with_reducible show ∃ _, Kn.dat _ = Kn.dat _ ∧ _); refine ⟨_, rfl, ?_⟩) | fail))

section
variable {P : Program} {w : World} {K : PySem.W.Frag} {mg : Str → Option Value} {base : Heap} {f : Addr} {fd : FuncData}

/-- the numbers unlike 0 -/
def lead (v : V3) : List PyData := v.l.filterMap fun n => if n == 0 then none else some (.int n)
theorem lead_facts {v : V3} (h : v.nz) : ∃ n ds, lead v = .int n :: ds ∧ n ≠ 0 ∧ (0 < n ↔ v.pos) := by
  unfold lead
  unfold V3.nz at h
  unfold V3.pos
  by_cases hx : v.x = 0
  · by_cases hy : v.y = 0
    · have hz : v.z ≠ 0 := fun e => h ⟨hx, hy, e⟩
      exact ⟨v.z, [], by simp [V3.l, hx, hy, hz], hz, by omega⟩
    · by_cases hz : v.z = 0
      · exact ⟨v.y, [], by simp [V3.l, hx, hy, hz], hy, by omega⟩
      · exact ⟨v.y, [.int v.z], by simp [V3.l, hx, hy, hz], hy, by omega⟩
  · refine ⟨v.x, [v.y, v.z].filterMap fun n => if n == 0 then none else some (.int n), by simp [V3.l, hx], hx, by omega⟩
theorem atI_zero {α : Type} {x : α} {xs : List α} : atI (x :: xs) 0 = some x := by
  unfold atI ixN
  simp
theorem shaped_ints {ns : List Int} : SeqAt.shaped (.list (ns.map PyData.int)) = true := by
  have h : PyData.canLayAll0 (ns.map PyData.int) = true ∧ PyData.depthAll (ns.map PyData.int) = 0 := by
    induction ns with
    | nil => exact ⟨rfl, rfl⟩
    | cons n k ih => exact ⟨by simp only [List.map_cons, PyData.canLayAll0, PyData.canLay0, ih.1, Bool.and_self], by simp only [List.map_cons, PyData.depthAll, PyData.depth, ih.2]; rfl⟩
  unfold SeqAt.shaped
  simp only [PyData.canLay0, h.1, Bool.true_and, PyData.depth]
  exact decide_eq_true (by omega)
theorem fm_nz (k : List Int) : (k.filterMap fun n => if n == 0 then none else some (PyData.int n)) = (k.filter fun x => !(x == 0)).map PyData.int := by
  induction k with
  | nil => rfl
  | cons n k ih =>
    by_cases h : n == 0
    · simp only [List.filterMap_cons, List.filter_cons, h, if_true, ih]; rfl
    · simp only [List.filterMap_cons, List.filter_cons, h, if_false, ih]; rfl
def w_lrim : WT := fun ks O Φ => ∃ v : V3, ks = [.dat v.d] ∧ v.nz ∧ v.Bd 150 ∧ O = [] ∧ Φ (.dat v.fst.d) []
theorem cl_law_rim (T : Bt mg) (F : Df K mg "_law_rim" s_law_rim f fd) (C_law_reduced : Cl P w K mg base "_law_reduced" 2 1 w_lreduced) (C_law_minus : Cl P w K mg base "_law_minus" 1 1 w_lminus) : Cl P w K mg base "_law_rim" 3 1 w_lrim := by
  have nd := sc_law_rim.nd
  refine cl_of 2 1 F sc_law_rim rfl (fun _ _ _ _ _ _ us hl => match us, hl with | [_], _ => rfl) fun cdv A outer s H E hr => ⟨_, (pss_cons (ps_set (i := 1) nd rfl (Or.inl rfl) (pe_cl C_law_reduced (hr.mono (by decide)) (by rfl) (pa_cons (pv 0) pa_nil)))
      (pss_cons (ps_setLc (i := 2) (own := [("_law_number", 3)]) (g := gName 3) (by rfl) nd rfl rfl (sw_true rfl rfl rfl (by decide +kernel)) (kTup (K := K) (pv 1)) (blkOk_by (own := [("_law_number", 3)]) (N := N_law_rim) (sc := defScope s_law_rim) (by decide +kernel)) (fun _ _ _ _ _ => (pg_name (i := 3) nd rfl (Or.inl rfl))) (fun _ _ _ _ _ => (pts_one (pt_cmpR (kNeD (K := K) hr.units) (pv 3) pe_int (nomark _)))) (fun _ _ _ _ _ => (pv 3)))
      (pss_one (ps_ret (pe_ifExp (PW.pt (pw_or (pt_cmpR (kEqD (K := K) hr.units) (pv 2) (pe_lst pa_nil) (nomark _)) (pw_or1 (pt_cmpR op_gt (pe_ix (kIx (K := K)) (pv 2) pe_int (fun _ _ => rfl)) pe_int (nomark _))))) (pv 1) (pe_cl C_law_minus (hr.mono (by decide)) (by rfl) (pa_cons (pv 1) pa_nil))))))), ?_⟩
  intro B ks O Φ hl ⟨v, e1, hv, hb, e2, q⟩
  subst e1 e2
  have hn := V3.low_nz hv
  walk_at "sk"
  refine ⟨rfl, callK0 ⟨v, rfl, hb, rfl, ?_⟩⟩
  rw [red_low hv]
  walk_at "sk"
  refine ev_lcF (ei_tup ?_) (own_name (by decide))
  walk_at "sk"
  refine ⟨Int, v.low.l, fun n => .dat (.int n), fun n => if n == 0 then none else some (.int n), rfl, by simp, (fun q hq => nomatch hq), fun n _ => ?_, fun p => ?_⟩
  · refine tg_name ?_
    walk_at "sk"
    rw [eqv_int]
    refine ⟨fun h => ?_, fun h => ⟨by show (if (n == 0) = true then _ else _) = _; rw [if_pos (by simpa using h)], sub_refl _⟩⟩
    walk_at "sk"
    exact ⟨by show (if (n == 0) = true then _ else _) = _; rw [if_neg (by simpa using h)], sub_refl _⟩
  · obtain ⟨m, ds, e, hm, hpos⟩ := lead_facts hn
    have e : (v.low.l.filterMap fun n => if n == 0 then none else some (PyData.int n)) = .int m :: ds := e
    have hsh : SeqAt.shaped (.list (.int m :: ds)) = true := by
      rw [← e, fm_nz]
      exact shaped_ints
    rw [e]
    walk_at "sk"
    refine ev_lst ?_
    walk_at "sk"
    intro r
    refine o_eqD (.lst (List.mem_cons_of_mem _ (List.mem_cons_self ..))) (.lst (List.mem_cons_self ..)) hsh (by decide +kernel) ?_
    rw [eqv_nil]
    walk_at "sk"
    refine o_ix (.lst (List.mem_cons_of_mem _ (List.mem_cons_self ..))) (d := .int m) atI_zero ?_
    walk_at "sk"
    unfold V3.fst at q
    refine ⟨fun h => ?_, fun h => ?_⟩
    · have h := of_decide_eq_true h
      rw [if_pos (hpos.mp h)] at q
      walk_at "sk"
      exact ⟨_, sub_nil _, q⟩
    · have h := of_decide_eq_false h
      rw [if_neg (fun z => h (hpos.mpr z))] at q
      walk_at "sk"
      refine ⟨rfl, callK0 ⟨v.low, rfl, rfl, ?_⟩⟩
      exact ⟨_, sub_nil _, q⟩

def w_lsigns : WT := fun ks O Φ => ∃ (M : List V3) (a : Addr) (v : V3), ks = [.ptr a, .dat v.d] ∧ (∀ p ∈ M, p.Sm) ∧ M.length < 100000 ∧ O = [(a, .lst (M.map V3.d))] ∧ Φ (.dat (tupI (sg M v))) O
theorem cl_law_signs (T : Bt mg) (F : Df K mg "_law_signs" s_law_signs f fd) (C_law_sign : Cl P w K mg base "_law_sign" 1 1 w_lsign) (C_law_dot : Cl P w K mg base "_law_dot" 1 2 w_ldot) : Cl P w K mg base "_law_signs" 2 2 w_lsigns := by
  have nd := sc_law_signs.nd
  refine cl_of 1 2 F sc_law_signs rfl (fun _ _ _ _ _ _ us hl => match us, hl with | [_, _], _ => rfl) fun cdv A outer s H E hr => ⟨_, (pss_one (ps_ret (pe_callTy (kTupleOf (K := K)) (by rfl) T.tuple_ (by decide +kernel) (pa_cons (pe_lc (own := [("_law_n", 2)]) (g := gName 2) (by rfl) nd (kList (K := K) (pv 0)) (blkOk_by (own := [("_law_n", 2)]) (N := N_law_signs) (sc := defScope s_law_signs) (by decide +kernel)) (fun _ _ _ _ _ => (pg_name (i := 2) nd rfl (Or.inl rfl))) (fun _ _ _ _ _ => pts_nil) (fun _ _ _ _ _ => (pe_cl C_law_sign (hr.mono (by decide)) (by rfl) (pa_cons (pe_cl C_law_dot (hr.mono (by decide)) (by rfl) (pa_cons (pv 2) (pa_cons (pv 1) pa_nil))) pa_nil)))) pa_nil)))), ?_⟩
  intro B ks O Φ hl ⟨M, a, v, e1, hs, hz, e2, q⟩
  subst e1 e2
  walk_at "sk"
  refine ev_lcF (ei_list ?_) (own_name (by decide))
  walk_at "sk"
  refine ⟨a, _, rfl, List.mem_cons_self .., V3, M, fun p => .dat p.d, fun p => some (.int (p.dot v).sign), by rw [List.map_map]; rfl, hz, fun q hq => hq, fun p hp => ?_, fun r => ?_⟩
  · refine tg_name (et_yes ⟨fun _ => ?_, fun e => nomatch e⟩)
    walk_at "sk"
    refine ⟨rfl, callK0 ⟨p, v, rfl, hs p hp, rfl, ?_⟩⟩
    walk_at "sk"
    refine ⟨rfl, callK0 ⟨_, rfl, rfl, ?_⟩⟩
    exact ⟨_, rfl, rfl, sub_refl _⟩
  · walk_at "sk"
    refine oc_tuple (.lst (List.mem_cons_self ..)) ?_ ⟨_, sub_cons (sub_refl _), ?_⟩
    · rw [fm_some, List.length_map]; omega
    · rw [fm_some]
      unfold tupI sg at q
      rw [List.map_map] at q
      exact q

def w_lare_whole : WT := fun ks O Φ => ∃ v : V3, ks = [.dat v.d, .dat (.int 3)] ∧ O = [] ∧ Φ (.dat (.bool true)) []
theorem cl_law_are_whole (T : Bt mg) (F : Df K mg "_law_are_whole" s_law_are_whole f fd) : Cl P w K mg base "_law_are_whole" 1 2 w_lare_whole := by
  have nd := sc_law_are_whole.nd
  refine cl_of 0 2 F sc_law_are_whole rfl (fun _ _ _ _ _ _ us hl => match us, hl with | [_, _], _ => rfl) fun cdv A outer s H E hr => ⟨_, (pss_cons (ps_if (PW.pt (pw_or (pt_not (pt_val (pe_callB (kIsi (K := K)) (by rfl) T.isinstance_ (by decide +kernel) (pa_cons (pv 0) (pa_cons (pe_bltn (v := .ty "tuple") (u := .type "tuple") (by rfl) T.tuple_ (by decide +kernel) rfl) pa_nil))))) (pw_or1 (pt_cmpR (kNeD (K := K) hr.units) (pe_callB (kLen (K := K)) (by rfl) T.len_ (by decide +kernel) (pa_cons (pv 0) pa_nil)) (pv 1) (nomark _))))) (pss_one (ps_ret pe_bl)) pss_nil)
      (pss_one (ps_ret (pe_cmpR (kEqD (K := K) hr.units) (pe_lc (own := [("_law_number", 2)]) (g := gName 2) (by rfl) nd (kTup (K := K) (pv 0)) (blkOk_by (own := [("_law_number", 2)]) (N := N_law_are_whole) (sc := defScope s_law_are_whole) (by decide +kernel)) (fun _ _ _ _ _ => (pg_name (i := 2) nd rfl (Or.inl rfl))) (fun _ _ _ _ _ => (pts_one (PW.pt (pw_or (pt_not (pt_val (pe_callB (kIsi (K := K)) (by rfl) T.isinstance_ (by decide +kernel) (pa_cons (pv 2) (pa_cons (pe_bltn (v := .ty "int") (u := .type "int") (by rfl) T.int_ (by decide +kernel) rfl) pa_nil))))) (pw_or1 (pt_val (pe_callB (kIsi (K := K)) (by rfl) T.isinstance_ (by decide +kernel) (pa_cons (pv 2) (pa_cons (pe_bltn (v := .ty "bool") (u := .type "bool") (by rfl) T.bool_ (by decide +kernel) rfl) pa_nil))))))))) (fun _ _ _ _ _ => (pv 2))) (pe_lst pa_nil) (nomark _))))), ?_⟩
  intro B ks O Φ hl ⟨v, e1, e2, q⟩
  subst e1 e2
  walk_at "sk"
  refine ev_lcF (ei_tup ?_) (own_name (by decide))
  walk_at "sk"
  refine ⟨Int, v.l, fun n => .dat (.int n), fun n => none, rfl, by simp, (fun q hq => nomatch hq), fun n _ => ?_, fun p => ?_⟩
  · refine tg_name ?_
    walk_at "sk"
    exact ⟨rfl, sub_refl _⟩
  · walk_at "sk"
    refine ev_lst ?_
    walk_at "sk"
    intro r
    refine o_eqD (.lst (List.mem_cons_of_mem _ (List.mem_cons_self ..))) (.lst (List.mem_cons_self ..)) (by rfl) (by decide +kernel) ?_
    exact ⟨_, sub_nil _, q⟩

def w_lis_ray : WT := fun ks O Φ => ∃ v : V3, ks = [.dat v.d] ∧ RayOk v ∧ O = [] ∧ Φ (.dat (.bool true)) []
theorem cl_law_is_ray (T : Bt mg) (F : Df K mg "_law_is_ray" s_law_is_ray f fd) (C_law_are_whole : Cl P w K mg base "_law_are_whole" 1 2 w_lare_whole) (C_law_gcd : Cl P w K mg base "_law_gcd" 1 2 w_lgcd) : Cl P w K mg base "_law_is_ray" 2 1 w_lis_ray := by
  have nd := sc_law_is_ray.nd
  refine cl_of 1 1 F sc_law_is_ray rfl (fun _ _ _ _ _ _ us hl => match us, hl with | [_], _ => rfl) fun cdv A outer s H E hr => ⟨_, (pss_one (ps_ret (pe_and (pe_cl C_law_are_whole (hr.mono (by decide)) (by rfl) (pa_cons (pv 0) (pa_cons pe_int pa_nil))) (pe_one (pe_cmpR (kEqD (K := K) hr.units) (pe_cl C_law_gcd (hr.mono (by decide)) (by rfl) (pa_cons (pe_cl C_law_gcd (hr.mono (by decide)) (by rfl) (pa_cons (pe_callB call_abs (by rfl) T.abs_ (by decide +kernel) (pa_cons (pe_ix (kIx (K := K)) (pv 0) pe_int (fun _ _ => rfl)) pa_nil)) (pa_cons (pe_callB call_abs (by rfl) T.abs_ (by decide +kernel) (pa_cons (pe_ix (kIx (K := K)) (pv 0) pe_int (fun _ _ => rfl)) pa_nil)) pa_nil))) (pa_cons (pe_callB call_abs (by rfl) T.abs_ (by decide +kernel) (pa_cons (pe_ix (kIx (K := K)) (pv 0) pe_int (fun _ _ => rfl)) pa_nil)) pa_nil))) pe_int (nomark _)))))), ?_⟩
  intro B ks O Φ hl ⟨v, e1, hr, e2, q⟩
  subst e1 e2
  have hb := hr.bd
  have hx : (v.x.natAbs : Int) < 2 ^ 150 := by exact_mod_cast hb.1
  have hy : (v.y.natAbs : Int) < 2 ^ 150 := by exact_mod_cast hb.2.1
  have hz : (v.z.natAbs : Int) < 2 ^ 150 := by exact_mod_cast hb.2.2
  have hxy := gI_lt (a := v.x) (b := v.y) hb.1 hb.2.1
  walk_at "sk"
  refine ⟨rfl, callK0 ⟨v, rfl, rfl, true, rfl, fun _ => ?_, fun h => nomatch h⟩⟩
  walk_at "sk"
  refine oc_abs ?_
  rw [abs_nat]
  walk_at "sk"
  refine oc_abs ?_
  rw [abs_nat]
  walk_at "sk"
  refine ⟨rfl, callK0 ⟨_, _, rfl, by omega, by omega, Int.lt_trans hx (by decide), Int.lt_trans hy (by decide), rfl, ?_⟩⟩
  have e1 : gI (v.x.natAbs : Int) (v.y.natAbs : Int) = gI v.x v.y := by unfold gI; simp
  rw [e1]
  walk_at "sk"
  refine oc_abs ?_
  rw [abs_nat]
  walk_at "sk"
  refine ⟨rfl, callK0 ⟨_, _, rfl, hxy.2, by omega, Int.lt_trans hxy.1 (by decide), Int.lt_trans hz (by decide), rfl, ?_⟩⟩
  have e2 : gI (gI v.x v.y) (v.z.natAbs : Int) = 1 := by
    have h := hr.pr
    unfold V3.Prim V3.gN at h
    unfold gI
    simp only [Int.natAbs_natCast]
    rw [h]; rfl
  rw [e2]
  walk_at "sk"
  exact ⟨_, sub_nil _, q⟩
end
end Sk


/-! La4: limits; trees by rays -/
namespace Sk
open PySem PySem.Spec PyProof.Rows L2
local macro_rules | `(tactic| walk_at "sk") => `(tactic| repeat' (first
  | ((with_reducible show Ev _ (tVar _) _ _ _); refine ev_var rfl ?_) | with_reducible refine ev_int ?_ | with_reducible refine ev_bl ?_ | with_reducible refine ev_non ?_ | with_reducible refine ev_str ?_ | with_reducible refine ev_ty ?_ | with_reducible refine ev_ref ?_
  | with_reducible refine ev_op ?_ | with_reducible refine ev_un ?_ | with_reducible refine ev_cb ?_ | with_reducible refine ea_cons ?_ | with_reducible refine ea_nil ?_
  | with_reducible refine ev_if ?_ | with_reducible refine ev_and ?_ | with_reducible refine ev_or ?_ | with_reducible refine ev_not ?_ | with_reducible refine ev_tup ?_ | with_reducible refine ev_call ?_
  | with_reducible refine sx_seq ?_ | with_reducible refine sx_asg ?_ | with_reducible refine tg_name ?_ | with_reducible refine sx_ret ?_ | with_reducible refine sx_next ?_ | with_reducible refine sx_drop ?_ | with_reducible refine sx_if ?_
  | with_reducible refine et_chain ?_ | with_reducible refine et_test ?_ | with_reducible refine et_B ?_ | with_reducible refine et_not ?_ | with_reducible refine et_and ?_ | with_reducible refine et_or ?_
  | with_reducible refine o_add ?_ | with_reducible refine o_sub ?_ | with_reducible refine o_lt ?_ | with_reducible refine o_le ?_ | with_reducible refine o_gt ?_ | with_reducible refine o_ge ?_
  | with_reducible refine o_neg ?_ | with_reducible refine o_subB ?_ | with_reducible refine o_mul ?_ ?_
  | ((with_reducible show Op2 _ (rIx _) _ _ _ _); refine o_ix (.tup _) rfl ?_)
  | ((with_reducible show Op2 _ (rEqD _) _ _ _ _); (first | refine o_eqD (.dat _) (.dat _) rfl rfl ?_ | refine o_eqD (.dat _) (.dat _) (by decide +kernel) (by decide +kernel) ?_))
  | ((with_reducible show Op2 _ (rNeD _) _ _ _ _); (first | refine o_neD (.dat _) (.dat _) rfl rfl ?_ | refine o_neD (.dat _) (.dat _) (by decide +kernel) (by decide +kernel) ?_))
  | ((with_reducible show Op2 _ (rIn _ false) _ _ _ _); refine o_in (.tup _) (by rfl) (by rfl) ?_) | ((with_reducible show Op2 _ (rIn _ true) _ _ _ _); refine o_notIn (.tup _) (by rfl) (by rfl) ?_)
  | ((with_reducible show OpC _ (rIsi _) _ _ _); (first | refine oc_isi (b := true) (by rfl) ?_ | refine oc_isi (b := false) (by rfl) ?_))
  | ((with_reducible show OpC _ _ _ _ _); refine oc_len (.tup _) ?_)
  | ((with_reducible show Tg _ (gTup _ _ _) _ _ _ _); (first | with_reducible refine tg_pair ?_ | refine tg_tup rfl ?_)) | ((with_reducible show Tgs _ (gCons _ _) _ _ _ _); refine tgs_cons ?_) | ((with_reducible show Tgs _ gNil _ _ _ _); refine tgs_nil ?_)
  | ((with_reducible show ∃ ds, alld _ ds ∧ _); (first
    | refine ⟨[_, _, _], ⟨rfl, rfl, rfl, trivial⟩, Nat.le_of_ble_eq_true rfl, ?_⟩ | refine ⟨[_, _], ⟨rfl, rfl, trivial⟩, Nat.le_of_ble_eq_true rfl, ?_⟩ | refine ⟨[_], ⟨rfl, trivial⟩, Nat.le_of_ble_eq_true rfl, ?_⟩ | refine ⟨[], trivial, Nat.le_of_ble_eq_true rfl, ?_⟩
    | refine ⟨[_, _, _, _], ⟨rfl, rfl, rfl, rfl, trivial⟩, Nat.le_of_ble_eq_true rfl, ?_⟩ | refine ⟨[_, _, _, _, _], ⟨rfl, rfl, rfl, rfl, rfl, trivial⟩, Nat.le_of_ble_eq_true rfl, ?_⟩ | refine ⟨[_, _, _, _, _, _], ⟨rfl, rfl, rfl, rfl, rfl, rfl, trivial⟩, Nat.le_of_ble_eq_true rfl, ?_⟩
    | refine ⟨[_, _, _, _, _, _, _], ⟨rfl, rfl, rfl, rfl, rfl, rfl, rfl, trivial⟩, Nat.le_of_ble_eq_true rfl, ?_⟩))
  | ((with_reducible show (_ = true → _) ∧ (_ = false → _)); (first | refine pickT rfl ?_ | refine pickF rfl ?_))
  | ((with_reducible show ∃ _, Kn.dat (PyData.bool _) = Kn.dat (PyData.bool _) ∧ _); refine ⟨_, rfl, ?_⟩)
  | ((with_reducible show ∃ _, Kn.dat _ = Kn.dat _ ∧ _); refine ⟨_, rfl, ?_⟩) | fail))

section
variable {P : Program} {w : World} {K : PySem.W.Frag} {mg : Str → Option Value} {base : Heap} {f : Addr} {fd : FuncData}

theorem atI_nat {α : Type} {xs : List α} {i : Nat} {x : α} (h : xs[i]? = some x) : atI xs (i : Int) = some x := by
  have hl := (List.getElem?_eq_some_iff.mp h).1
  unfold atI ixN
  rw [if_pos (by omega), if_pos (by omega)]
  simpa using h
def w_llimit : WT := fun ks O Φ => ∃ a b : Rw, ks = [.dat (tupI a), .dat (tupI b)] ∧ a.length = b.length ∧ a.length < 100000 ∧ O = [] ∧ Φ (.dat (.bool (liesB a b))) []
theorem lies_iff {a b : Rw} (h : a.length = b.length) : liesB a b = (((List.range b.length).filter fun i => (!(a.getD i 0 == 0)) && (!(a.getD i 0 == b.getD i 0))).isEmpty) := by
  rw [Bool.eq_iff_iff, List.isEmpty_iff, List.filter_eq_nil_iff]
  unfold liesB
  rw [List.all_eq_true]
  constructor
  · intro hall i hi
    have hi := List.mem_range.mp hi
    have hm : (0 == a.getD i 0 || b.getD i 0 == a.getD i 0) ∈ List.zipWith (fun m e => (0 == m || e == m)) a b := by
      refine List.mem_iff_getElem?.mpr ⟨i, ?_⟩
      rw [List.getElem?_zipWith, List.getD_eq_getElem?_getD, List.getD_eq_getElem?_getD, List.getElem?_eq_getElem (by omega : i < a.length), List.getElem?_eq_getElem hi]
      rfl
    have := hall _ hm
    simp only [id, Bool.or_eq_true, beq_iff_eq] at this
    simp only [Bool.and_eq_true, Bool.not_eq_true', beq_eq_false_iff_ne]
    rintro ⟨h1, h2⟩
    rcases this with e | e
    · exact h1 e.symm
    · exact h2 e.symm
  · intro hall x hx
    obtain ⟨i, hi⟩ := List.mem_iff_getElem?.mp hx
    rw [List.getElem?_zipWith] at hi
    cases ha : a[i]? with
    | none => rw [ha] at hi; cases hi
    | some m =>
      cases hb : b[i]? with
      | none => rw [ha, hb] at hi; cases hi
      | some e =>
        rw [ha, hb] at hi
        cases hi
        have hil := (List.getElem?_eq_some_iff.mp hb).1
        have := hall i (List.mem_range.mpr hil)
        rw [List.getD_eq_getElem?_getD, List.getD_eq_getElem?_getD, ha, hb] at this
        simp only [Option.getD_some, Bool.and_eq_true, Bool.not_eq_true', beq_eq_false_iff_ne, not_and] at this
        simp only [id, Bool.or_eq_true, beq_iff_eq]
        by_cases h0 : m = 0
        · exact .inl h0.symm
        · refine .inr (Classical.byContradiction fun hn => this h0 fun e => hn e.symm)
theorem fm_ints (c : Nat → Bool) (l : List Nat) : (l.filterMap fun i => if c i then some (PyData.int (0 + (i : Int))) else none) = ((l.filter c).map fun (i : Nat) => (0 + (i : Int))).map PyData.int := by
  induction l with
  | nil => rfl
  | cons n k ih =>
    by_cases h : c n
    · simp only [List.filterMap_cons, List.filter_cons, h, if_true, List.map_cons, ih]
    · simp only [List.filterMap_cons, List.filter_cons, h, if_false, ih]; rfl
theorem cl_law_is_limit (T : Bt mg) (F : Df K mg "_law_is_limit" s_law_is_limit f fd) : Cl P w K mg base "_law_is_limit" 1 2 w_llimit := by
  have nd := sc_law_is_limit.nd
  refine cl_of 0 2 F sc_law_is_limit rfl (fun _ _ _ _ _ _ us hl => match us, hl with | [_, _], _ => rfl) fun cdv A outer s H E hr => ⟨_, (pss_one (ps_ret (pe_cmpR (kEqD (K := K) hr.units) (pe_lc (own := [("_law_k", 2)]) (g := gName 2) (by rfl) nd (pi_range1 (by rfl) T.range_ (pa_cons (pe_callB (kLen (K := K)) (by rfl) T.len_ (by decide +kernel) (pa_cons (pv 1) pa_nil)) pa_nil)) (blkOk_by (own := [("_law_k", 2)]) (N := N_law_is_limit) (sc := defScope s_law_is_limit) (by decide +kernel)) (fun _ _ _ _ _ => (pg_name (i := 2) nd rfl (Or.inl rfl))) (fun _ _ _ _ _ => (pts_one (PW.pt (pw_and (pt_cmpR (kNeD (K := K) hr.units) (pe_ix (kIx (K := K)) (pv 0) (pv 2) (fun _ _ => rfl)) pe_int (nomark _)) (pw_and1 (pt_cmpR (kNeD (K := K) hr.units) (pe_ix (kIx (K := K)) (pv 0) (pv 2) (fun _ _ => rfl)) (pe_ix (kIx (K := K)) (pv 1) (pv 2) (fun _ _ => rfl)) (nomark _))))))) (fun _ _ _ _ _ => (pv 2))) (pe_lst pa_nil) (nomark _)))), ?_⟩
  intro B ks O Φ hl ⟨a, b, e1, hab, hz, e2, q⟩
  subst e1 e2
  walk_at "sk"
  refine ev_lcF (ei_rng1 ?_) (own_name (by decide))
  walk_at "sk"
  have hbl : (b.map PyData.int).length = b.length := List.length_map ..
  refine ⟨_, rfl, by rw [hbl]; omega, by rw [hbl]; omega, Nat, List.range b.length, fun i => .dat (.int (0 + (i : Int))), fun i => if ((!(a.getD i 0 == 0)) && (!(a.getD i 0 == b.getD i 0))) then some (.int (0 + (i : Int))) else none, by rw [hbl]; rfl, by rw [List.length_range]; omega, (fun q hq => nomatch hq), fun i hi => ?_, fun p => ?_⟩
  · have hi := List.mem_range.mp hi
    have ha : atI (a.map PyData.int) (0 + (i : Int)) = some (.int (a.getD i 0)) := by
      rw [Int.zero_add]
      refine atI_nat ?_
      rw [List.getElem?_map, List.getD_eq_getElem?_getD, List.getElem?_eq_getElem (by omega)]; rfl
    have hb : atI (b.map PyData.int) (0 + (i : Int)) = some (.int (b.getD i 0)) := by
      rw [Int.zero_add]
      refine atI_nat ?_
      rw [List.getElem?_map, List.getD_eq_getElem?_getD, List.getElem?_eq_getElem (by omega)]; rfl
    refine tg_name ?_
    walk_at "sk"
    refine o_ix (.tup _) ha ?_
    walk_at "sk"
    rw [eqv_int]
    refine ⟨fun h => ?_, fun h => ?_⟩
    · walk_at "sk"
      refine o_ix (.tup _) ha ?_
      walk_at "sk"
      refine o_ix (.tup _) hb ?_
      walk_at "sk"
      rw [eqv_int]
      refine ⟨fun h2 => ?_, fun h2 => ?_⟩
      · walk_at "sk"
        exact ⟨by show (if _ then _ else _) = _; rw [h, h2]; rfl, sub_refl _⟩
      · exact ⟨by show (if _ then _ else _) = _; rw [h, h2]; rfl, sub_refl _⟩
    · refine pickF rfl ?_
      exact ⟨by show (if _ then _ else _) = _; rw [h]; rfl, sub_refl _⟩
  · walk_at "sk"
    refine ev_lst ?_
    walk_at "sk"
    intro r
    rw [fm_ints]
    refine o_eqD (.lst (List.mem_cons_of_mem _ (List.mem_cons_self ..))) (.lst (List.mem_cons_self ..)) shaped_ints (by decide +kernel) ?_
    rw [eqv_nil]
    rw [lies_iff hab] at q
    refine ⟨_, sub_nil _, ?_⟩
    have e : ∀ l : List Nat, ((l.map fun (i : Nat) => (0 + (i : Int))).map PyData.int).isEmpty = l.isEmpty := fun l => by cases l <;> rfl
    rw [e]
    exact q

theorem eqv_all_ints (a b : Rw) : PyData.eqvAll (a.map .int) (b.map .int) = decide (a = b) := by
  induction a generalizing b with
  | nil => cases b <;> simp [PyData.eqvAll]
  | cons x a ih =>
    cases b with
    | nil => simp [PyData.eqvAll]
    | cons y b =>
      simp only [List.map_cons, PyData.eqvAll, PyData.eqv, ih]
      by_cases h1 : x = y
      · by_cases h2 : a = b
        · simp [h1, h2]
        · simp [h1, h2]
      · simp [h1]
theorem eqv_tup (a b : Rw) : PyData.eqv (tupI a) (tupI b) = decide (a = b) := by
  unfold tupI
  rw [PyData.eqv]
  exact eqv_all_ints a b
theorem shaped_tup {k : Rw} : SeqAt.shaped (tupI k) = true := by
  have := shaped_ints (ns := k)
  unfold SeqAt.shaped at this ⊢
  exact this
def w_ltouch : WT := fun ks O Φ => ∃ a b : Rw, ks = [.dat (tupI a), .dat (tupI b)] ∧ a.length = b.length ∧ a.length < 100000 ∧ O = [] ∧ Φ (.dat (.bool (!(decide (a = b)) && liesB a b))) []
theorem cl_law_touch (T : Bt mg) (F : Df K mg "_law_touch" s_law_touch f fd) (C_law_is_limit : Cl P w K mg base "_law_is_limit" 1 2 w_llimit) : Cl P w K mg base "_law_touch" 2 2 w_ltouch := by
  have nd := sc_law_touch.nd
  refine cl_of 1 2 F sc_law_touch rfl (fun _ _ _ _ _ _ us hl => match us, hl with | [_, _], _ => rfl) fun cdv A outer s H E hr => ⟨_, (pss_one (ps_ret (pe_and (pe_cmpR (kEqD (K := K) hr.units) (pe_callB (kLen (K := K)) (by rfl) T.len_ (by decide +kernel) (pa_cons (pv 0) pa_nil)) (pe_callB (kLen (K := K)) (by rfl) T.len_ (by decide +kernel) (pa_cons (pv 1) pa_nil)) (nomark _)) (pe_and (pe_cmpR (kNeD (K := K) hr.units) (pv 0) (pv 1) (nomark _)) (pe_one (pe_cl C_law_is_limit (hr.mono (by decide)) (by rfl) (pa_cons (pv 0) (pa_cons (pv 1) pa_nil)))))))), ?_⟩
  intro B ks O Φ hl ⟨a, b, e1, hab, hz, e2, q⟩
  subst e1 e2
  walk_at "sk"
  rw [eqv_int, List.length_map, List.length_map]
  refine pickT (by rw [hab]; simp) ?_
  walk_at "sk"
  refine o_neD (.dat _) (.dat _) shaped_tup shaped_tup ?_
  rw [eqv_tup]
  refine ⟨_, rfl, fun h => ?_, fun h => ?_⟩
  · rw [h, Bool.true_and] at q
    walk_at "sk"
    exact ⟨rfl, callK0 ⟨a, b, rfl, hab, hz, rfl, _, sub_nil _, q⟩⟩
  · rw [h, Bool.false_and] at q
    exact ⟨_, sub_nil _, q⟩

def w_lwide : WT := fun ks O Φ => ∃ (ins outs : List Rw) (n : Nat) (x y : Addr), ks = [.ptr x, .ptr y] ∧ (∀ k ∈ ins, k.length = n) ∧ (∀ k ∈ outs, k.length = n) ∧ n < 100000 ∧ O = [(x, .lst (ins.map tupI)), (y, .lst (outs.map tupI))] ∧ ∀ b, (b = true ↔ ∀ s ∈ outs, ∀ e ∈ ins, (!(decide (e = s)) && liesB e s) = false) → Φ (.dat (.bool b)) O
theorem cl_law_is_wide (T : Bt mg) (F : Df K mg "_law_is_wide" s_law_is_wide f fd) (C_law_touch : Cl P w K mg base "_law_touch" 2 2 w_ltouch) : Cl P w K mg base "_law_is_wide" 3 2 w_lwide := by
  have nd := sc_law_is_wide.nd
  refine cl_of 2 2 F sc_law_is_wide rfl (fun _ _ _ _ _ _ us hl => match us, hl with | [_, _], _ => rfl) fun cdv A outer s H E hr => ⟨_, (pss_cons (ps_for PassesOwn.never rfl (kList (K := K) (pv 1)) (pg_name (i := 2) nd rfl (Or.inl rfl)) (pss_one (ps_for PassesOwn.never rfl (kList (K := K) (pv 0)) (pg_name (i := 3) nd rfl (Or.inl rfl)) (pss_one (ps_if (pt_val (pe_cl C_law_touch (hr.mono (by decide)) (by rfl) (pa_cons (pv 3) (pa_cons (pv 2) pa_nil)))) (pss_one (ps_ret pe_bl)) pss_nil)))))
      (pss_one (ps_ret pe_bl))), ?_⟩
  intro B ks O Φ hl ⟨ins, outs, n, x, y, e1, hi, ho, hn, e2, q⟩
  subst e1 e2
  walk_at "sk"
  refine sx_for (ei_list ?_)
  walk_at "sk"
  refine ⟨y, _, rfl, List.mem_cons_of_mem _ (List.mem_cons_self ..), fun i ρ' O' => O' = [(x, .lst (ins.map tupI)), (y, .lst (outs.map tupI))] ∧ (∀ s ∈ outs.take i, ∀ e ∈ ins, (!(decide (e = s)) && liesB e s) = false) ∧ ∃ u v, ρ' = [some (.ptr x), some (.ptr y), u, v], ⟨rfl, by simp, _, _, rfl⟩, fun i ρ' O' _ hI q hq => ?_, fun i k ρ' O' hk hI => ?_, fun ρ' O' hI => ?_⟩
  · obtain ⟨rfl, _⟩ := hI
    rw [List.mem_singleton] at hq
    rw [hq]
    simp
  · obtain ⟨rfl, hno, u, v, rfl⟩ := hI
    rw [List.getElem?_map, List.getElem?_map] at hk
    cases hs : outs[i]? with
    | none => rw [hs] at hk; cases hk
    | some s =>
      rw [hs] at hk
      cases hk
      have hsm := List.mem_of_getElem? hs
      have et : outs.take (i + 1) = outs.take i ++ [s] := by rw [List.take_add_one, hs]; rfl
      walk_at "sk"
      refine sx_for (ei_list ?_)
      walk_at "sk"
      refine ⟨x, _, rfl, List.mem_cons_self .., fun j ρ' O' => O' = [(x, .lst (ins.map tupI)), (y, .lst (outs.map tupI))] ∧ (∀ e ∈ ins.take j, (!(decide (e = s)) && liesB e s) = false) ∧ ∃ v, ρ' = [some (.ptr x), some (.ptr y), some (.dat (tupI s)), v], ⟨rfl, by simp, _, rfl⟩, fun j ρ' O' _ hI q hq => ?_, fun j k ρ' O' hk hI => ?_, fun ρ' O' hI => ?_⟩
      · obtain ⟨rfl, _⟩ := hI
        rw [List.mem_singleton] at hq
        rw [hq]
        simp
      · obtain ⟨rfl, hno2, v, rfl⟩ := hI
        rw [List.getElem?_map, List.getElem?_map] at hk
        cases he : ins[j]? with
        | none => rw [he] at hk; cases hk
        | some e =>
          rw [he] at hk
          cases hk
          have hem := List.mem_of_getElem? he
          have et2 : ins.take (j + 1) = ins.take j ++ [e] := by rw [List.take_add_one, he]; rfl
          refine tg_name ?_
          walk_at "sk"
          refine ⟨rfl, callK0 ⟨e, s, rfl, by rw [hi e hem, ho s hsm], by rw [hi e hem]; exact hn, rfl, ?_⟩⟩
          refine ⟨_, rfl, fun h => ?_, fun h => ?_⟩
          · walk_at "sk"
            refine ⟨_, sub_refl _, q false ⟨(fun e => nomatch e), fun hall => ?_⟩⟩
            rw [hall s hsm e hem] at h
            exact nomatch h
          · walk_at "sk"
            refine ⟨_, sub_refl _, rfl, fun z hz => ?_, _, rfl⟩
            rw [et2] at hz
            rcases List.mem_append.mp hz with hz | hz
            · exact hno2 z hz
            · rw [List.mem_singleton.mp hz]; exact h
      · obtain ⟨rfl, hno2, v, rfl⟩ := hI
        rw [List.length_map, List.length_map, List.take_length] at hno2
        refine ⟨_, sub_refl _, rfl, fun z hz => ?_, _, _, rfl⟩
        rw [et] at hz
        rcases List.mem_append.mp hz with hz | hz
        · exact hno z hz
        · rw [List.mem_singleton.mp hz]; exact hno2
  · obtain ⟨rfl, hno, u, v, rfl⟩ := hI
    rw [List.length_map, List.length_map, List.take_length] at hno
    walk_at "sk"
    exact ⟨_, sub_refl _, q true ⟨fun _ => hno, fun _ => rfl⟩⟩

/-! ### trees by rays -/
theorem any_bools (bs : List Bool) (c : Bool) : ((bs.map PyData.bool).any fun z => PyData.eqv z (.bool c)) = bs.any fun x => x == c := by
  induction bs with
  | nil => rfl
  | cons b bs ih => simp only [List.map_cons, List.any_cons, ih, PyData.eqv]
theorem not_any_false (bs : List Bool) : (!(bs.any fun x => x == false)) = bs.all id := by
  induction bs with
  | nil => rfl
  | cons b bs ih => cases b <;> simp_all
theorem any_true (bs : List Bool) : (bs.any fun x => x == true) = bs.any id := by
  induction bs with
  | nil => rfl
  | cons b bs ih => cases b <;> simp_all
theorem flat_bools (bs : List Bool) : (bs.map PyData.bool).all flatD = true := by
  induction bs with
  | nil => rfl
  | cons b bs ih => simp only [List.map_cons, List.all_cons, ih, Bool.and_true]; rfl
def w_lin (n : Nat) : WT := fun ks O Φ => ∃ (t : Tr) (v : V3), ks = [.dat t.d, .dat v.d] ∧ t.fit ∧ t.dep ≤ n ∧ O = [] ∧ Φ (.dat (.bool (t.holds v))) []
theorem cl_law_in (T : Bt mg) (F : Df K mg "_law_in" s_law_in f fd) (C_law_dot : Cl P w K mg base "_law_dot" 1 2 w_ldot) : ∀ n, Cl P w K mg base "_law_in" (2 + n) 2 (w_lin n)
  | 0 => cl_none F (ps := ["_law_sky_here", "_law_v"]) (fun _ _ _ _ _ _ us hl => match us, hl with | [_, _], _ => rfl) fun ks O Φ ⟨t, _, _, _, h, _⟩ => by have := t.dep_pos; omega
  | n + 1 => by
    have C_law_in := cl_law_in T F C_law_dot n
    show Cl P w K mg base "_law_in" (2 + n + 1) 2 (w_lin (n + 1))
    have nd := sc_law_in.nd
    refine cl_of (2+n) 2 F sc_law_in rfl (fun _ _ _ _ _ _ us hl => match us, hl with | [_, _], _ => rfl) fun cdv A outer s H E hr => ⟨_, (pss_cons (ps_if (pt_cmpR (kEqD (K := K) hr.units) (pe_ix (kIx (K := K)) (pv 0) pe_int (fun _ _ => rfl)) pe_str (nomark _)) (pss_one (ps_ret pe_bl)) pss_nil)
      (pss_cons (ps_if (pt_cmpR (kEqD (K := K) hr.units) (pe_ix (kIx (K := K)) (pv 0) pe_int (fun _ _ => rfl)) pe_str (nomark _)) (pss_one (ps_ret (pe_cmpR op_gt (pe_cl C_law_dot (hr.mono (by omega)) (by rfl) (pa_cons (pe_ix (kIx (K := K)) (pv 0) pe_int (fun _ _ => rfl)) (pa_cons (pv 1) pa_nil))) pe_int (nomark _)))) pss_nil)
      (pss_cons (ps_if (pt_cmpR (kEqD (K := K) hr.units) (pe_ix (kIx (K := K)) (pv 0) pe_int (fun _ _ => rfl)) pe_str (nomark _)) (pss_one (ps_ret (pe_cmpR (kEqD (K := K) hr.units) (pe_cl C_law_dot (hr.mono (by omega)) (by rfl) (pa_cons (pe_ix (kIx (K := K)) (pv 0) pe_int (fun _ _ => rfl)) (pa_cons (pv 1) pa_nil))) pe_int (nomark _)))) pss_nil)
      (pss_cons (ps_if (pt_cmpR (kEqD (K := K) hr.units) (pe_ix (kIx (K := K)) (pv 0) pe_int (fun _ _ => rfl)) pe_str (nomark _)) (pss_one (ps_ret (pe_not (pe_cl C_law_in (hr.mono (by omega)) (by rfl) (pa_cons (pe_ix (kIx (K := K)) (pv 0) pe_int (fun _ _ => rfl)) (pa_cons (pv 1) pa_nil)))))) pss_nil)
      (pss_cons (ps_setLc (i := 2) (own := [("_law_each", 3)]) (g := gName 3) (by rfl) nd rfl rfl (sw_true rfl rfl rfl (by decide +kernel)) (kTup (K := K) (pe_ix (kIx (K := K)) (pv 0) pe_int (fun _ _ => rfl))) (blkOk_by (own := [("_law_each", 3)]) (N := N_law_in) (sc := defScope s_law_in) (by decide +kernel)) (fun _ _ _ _ _ => (pg_name (i := 3) nd rfl (Or.inl rfl))) (fun _ _ _ _ _ => pts_nil) (fun _ _ _ _ _ => (pe_cl C_law_in (hr.mono (by omega)) (by rfl) (pa_cons (pv 3) (pa_cons (pv 1) pa_nil)))))
      (pss_one (ps_ret (pe_ifExp (pt_cmpR (kEqD (K := K) hr.units) (pe_ix (kIx (K := K)) (pv 0) pe_int (fun _ _ => rfl)) pe_str (nomark _)) (pe_cmpR (kNotIn (K := K)) pe_bl (pv 2) (by with_unfolding_all rfl)) (pe_cmpR (kIn (K := K)) pe_bl (pv 2) (by with_unfolding_all rfl)))))))))), ?_⟩
    intro B ks O Φ hl ⟨t, v, e1, hf, hd, e2, q⟩
    subst e1 e2
    cases t with
    | all =>
      walk_at "sk"
      exact ⟨_, sub_nil _, q⟩
    | leaf s u =>
      rw [Tr.fit] at hf
      have hsm := hf.2.sm (by decide)
      cases s
      · rw [Tr.holds] at q
        walk_at "sk"
        refine ⟨rfl, callK0 ⟨u, v, rfl, hsm, rfl, ?_⟩⟩
        walk_at "sk"
        rw [eqv_int]
        refine ⟨_, sub_nil _, ?_⟩
        have e : (u.dot v == 0) = decide (u.dot v = 0) := by rw [Bool.eq_iff_iff]; simp
        rw [e]
        exact q
      · rw [Tr.holds] at q
        walk_at "sk"
        refine ⟨rfl, callK0 ⟨u, v, rfl, hsm, rfl, ?_⟩⟩
        walk_at "sk"
        exact ⟨_, sub_nil _, q⟩
    | not t =>
      rw [Tr.fit] at hf
      rw [Tr.dep] at hd
      rw [Tr.holds] at q
      walk_at "sk"
      exact ⟨rfl, callK0 ⟨t, v, rfl, hf, by omega, rfl, _, rfl, _, sub_nil _, q⟩⟩
    | grp a ts =>
      rw [Tr.fit] at hf
      rw [Tr.dep] at hd
      cases a
      all_goals
        rw [Tr.holds, Tr.holdsL_map] at q
        walk_at "sk"
        refine ev_lcF (ei_tup ?_) (own_name (by decide))
        walk_at "sk"
        refine ⟨Tr, ts, fun t => .dat t.d, fun t => some (.bool (t.holds v)), by rw [Tr.dL_map, List.map_map]; rfl, by omega, (fun q hq => nomatch hq), fun t ht => ?_, fun r => ?_⟩
        · refine tg_name (et_yes ⟨fun _ => ?_, fun e => nomatch e⟩)
          walk_at "sk"
          exact ⟨rfl, callK0 ⟨t, v, rfl, Tr.fitL_all.mp hf.2.2 t ht, Tr.depL_le.mp (by omega) t ht, rfl, _, rfl, rfl, sub_refl _⟩⟩
        · walk_at "sk"
          have eb : (ts.filterMap fun t => some (PyData.bool (t.holds v))) = (ts.map (Tr.holds v)).map PyData.bool := by rw [fm_some, List.map_map]; rfl
          rw [eb]
          first
          | (refine o_notIn (.lst (List.mem_cons_self ..)) rfl (flat_bools _) ⟨_, sub_nil _, ?_⟩
             rw [any_bools, not_any_false]
             exact q)
          | (refine o_in (.lst (List.mem_cons_self ..)) rfl (flat_bools _) ⟨_, sub_nil _, ?_⟩
             rw [any_bools, any_true]
             exact q)
end
end Sk


/-! La5: planes, off -/
namespace Sk
open PySem PySem.Spec PyProof.Rows L2
local macro_rules | `(tactic| walk_at "sk") => `(tactic| repeat' (first
  | ((with_reducible show Ev _ (tVar _) _ _ _); refine ev_var rfl ?_) | with_reducible refine ev_int ?_ | with_reducible refine ev_bl ?_ | with_reducible refine ev_non ?_ | with_reducible refine ev_str ?_ | with_reducible refine ev_ty ?_ | with_reducible refine ev_ref ?_
  | with_reducible refine ev_op ?_ | with_reducible refine ev_un ?_ | with_reducible refine ev_cb ?_ | with_reducible refine ea_cons ?_ | with_reducible refine ea_nil ?_
  | with_reducible refine ev_if ?_ | with_reducible refine ev_and ?_ | with_reducible refine ev_or ?_ | with_reducible refine ev_not ?_ | with_reducible refine ev_tup ?_ | with_reducible refine ev_call ?_
  | with_reducible refine sx_seq ?_ | with_reducible refine sx_asg ?_ | with_reducible refine tg_name ?_ | with_reducible refine sx_ret ?_ | with_reducible refine sx_next ?_ | with_reducible refine sx_drop ?_ | with_reducible refine sx_if ?_
  | with_reducible refine et_chain ?_ | with_reducible refine et_test ?_ | with_reducible refine et_B ?_ | with_reducible refine et_not ?_ | with_reducible refine et_and ?_ | with_reducible refine et_or ?_
  | with_reducible refine o_add ?_ | with_reducible refine o_sub ?_ | with_reducible refine o_lt ?_ | with_reducible refine o_le ?_ | with_reducible refine o_gt ?_ | with_reducible refine o_ge ?_
  | with_reducible refine o_neg ?_ | with_reducible refine o_subB ?_ | with_reducible refine o_mul ?_ ?_
  | ((with_reducible show Op2 _ (rIx _) _ _ _ _); refine o_ix (.tup _) rfl ?_)
  | ((with_reducible show Op2 _ (rEqD _) _ _ _ _); (first | refine o_eqD (.dat _) (.dat _) rfl rfl ?_ | refine o_eqD (.dat _) (.dat _) (by decide +kernel) (by decide +kernel) ?_))
  | ((with_reducible show Op2 _ (rNeD _) _ _ _ _); (first | refine o_neD (.dat _) (.dat _) rfl rfl ?_ | refine o_neD (.dat _) (.dat _) (by decide +kernel) (by decide +kernel) ?_))
  | ((with_reducible show Op2 _ (rIn _ false) _ _ _ _); refine o_in (.tup _) (by rfl) (by rfl) ?_) | ((with_reducible show Op2 _ (rIn _ true) _ _ _ _); refine o_notIn (.tup _) (by rfl) (by rfl) ?_)
  | ((with_reducible show OpC _ (rIsi _) _ _ _); (first | refine oc_isi (b := true) (by rfl) ?_ | refine oc_isi (b := false) (by rfl) ?_))
  | ((with_reducible show OpC _ _ _ _ _); refine oc_len (.tup _) ?_)
  | ((with_reducible show Tg _ (gTup _ _ _) _ _ _ _); (first | with_reducible refine tg_pair ?_ | refine tg_tup rfl ?_)) | ((with_reducible show Tgs _ (gCons _ _) _ _ _ _); refine tgs_cons ?_) | ((with_reducible show Tgs _ gNil _ _ _ _); refine tgs_nil ?_)
  | ((with_reducible show ∃ ds, alld _ ds ∧ _); (first
    | refine ⟨[_, _, _], ⟨rfl, rfl, rfl, trivial⟩, Nat.le_of_ble_eq_true rfl, ?_⟩ | refine ⟨[_, _], ⟨rfl, rfl, trivial⟩, Nat.le_of_ble_eq_true rfl, ?_⟩ | refine ⟨[_], ⟨rfl, trivial⟩, Nat.le_of_ble_eq_true rfl, ?_⟩ | refine ⟨[], trivial, Nat.le_of_ble_eq_true rfl, ?_⟩
    | refine ⟨[_, _, _, _], ⟨rfl, rfl, rfl, rfl, trivial⟩, Nat.le_of_ble_eq_true rfl, ?_⟩ | refine ⟨[_, _, _, _, _], ⟨rfl, rfl, rfl, rfl, rfl, trivial⟩, Nat.le_of_ble_eq_true rfl, ?_⟩ | refine ⟨[_, _, _, _, _, _], ⟨rfl, rfl, rfl, rfl, rfl, rfl, trivial⟩, Nat.le_of_ble_eq_true rfl, ?_⟩
    | refine ⟨[_, _, _, _, _, _, _], ⟨rfl, rfl, rfl, rfl, rfl, rfl, rfl, trivial⟩, Nat.le_of_ble_eq_true rfl, ?_⟩))
  | ((with_reducible show (_ = true → _) ∧ (_ = false → _)); (first | refine pickT rfl ?_ | refine pickF rfl ?_))
  | ((with_reducible show ∃ _, Kn.dat (PyData.bool _) = Kn.dat (PyData.bool _) ∧ _); refine ⟨_, rfl, ?_⟩)
  | ((with_reducible show ∃ _, Kn.dat _ = Kn.dat _ ∧ _); refine ⟨_, rfl, ?_⟩) | fail))

section
variable {P : Program} {w : World} {K : PySem.W.Frag} {mg : Str → Option Value} {base : Heap} {f : Addr} {fd : FuncData}

def w_loff : WT := fun ks O Φ => ∃ (M : List V3) (v s : V3) (a b : Nat) (x : Addr), ks = [.dat v.d, .dat s.d, .ptr x] ∧ Pl M ∧ M ≠ [] ∧ v.nz ∧ v.dot s = 0 ∧ v.Bd a ∧ s.Bd b ∧ b ≤ 48 ∧ b + a ≤ 134 ∧ O = [(x, .lst (M.map V3.d))] ∧ ∀ r : V3, Near M v s r → r.Bd (b + a + 16) → Φ (.dat r.d) O
theorem cl_law_off (T : Bt mg) (F : Df K mg "_law_off" s_law_off f fd) (C_law_dot : Cl P w K mg base "_law_dot" 1 2 w_ldot) (CL_law_reduced : Cl P w K mg base "_law_reduced" 2 1 w_lreducedL) : Cl P w K mg base "_law_off" 3 3 w_loff := by
  have nd := sc_law_off.nd
  refine cl_of 2 3 F sc_law_off rfl (fun _ _ _ _ _ _ us hl => match us, hl with | [_, _, _], _ => rfl) fun cdv A outer s H E hr => ⟨_, (pss_cons (ps_set (i := 3) nd rfl (Or.inr rfl) (pe_op op_add pe_int (pe_callB (kMax (K := K) rfl) (by rfl) T.max_ (by decide +kernel) (pa_cons (pe_lc (own := [("_law_n", 4)]) (g := gName 4) (by rfl) nd (kList (K := K) (pv 2)) (blkOk_by (own := [("_law_n", 4)]) (N := N_law_off) (sc := defScope s_law_off) (by decide +kernel)) (fun _ _ _ _ _ => (pg_name (i := 4) nd rfl (Or.inl rfl))) (fun _ _ _ _ _ => pts_nil) (fun _ _ _ _ _ => (pe_callB call_abs (by rfl) T.abs_ (by decide +kernel) (pa_cons (pe_cl C_law_dot (hr.mono (by decide)) (by rfl) (pa_cons (pv 4) (pa_cons (pv 1) pa_nil))) pa_nil)))) pa_nil))))
      (pss_one (ps_ret (pe_cl CL_law_reduced (hr.mono (by decide)) (by rfl) (pa_cons (pe_lc (own := [("_law_k", 5)]) (g := gName 5) (by rfl) nd (pi_range1 (by rfl) T.range_ (pa_cons pe_int pa_nil)) (blkOk_by (own := [("_law_k", 5)]) (N := N_law_off) (sc := defScope s_law_off) (by decide +kernel)) (fun _ _ _ _ _ => (pg_name (i := 5) nd rfl (Or.inl rfl))) (fun _ _ _ _ _ => pts_nil) (fun _ _ _ _ _ => (pe_op op_add (pe_op op_mul (pv 3) (pe_ix (kIx (K := K)) (pv 0) (pv 5) (fun _ _ => rfl))) (pe_ix (kIx (K := K)) (pv 1) (pv 5) (fun _ _ => rfl))))) pa_nil))))), ?_⟩
  intro B ks O Φ hl ⟨M, v, s, a, b, x, e1, hP, hne, hv, h0, ha, hb, hb48, ha80, e2, q⟩
  subst e1 e2
  have hl5 := hP.le
  walk_at "sk"
  refine ev_lcF (ei_list ?_) (own_name (by decide))
  walk_at "sk"
  refine ⟨x, _, rfl, List.mem_cons_self .., V3, M, fun p => .dat p.d, fun p => some (.int (ab (p.dot s))), by rw [List.map_map]; rfl, by omega, fun q hq => hq, fun p hp => ?_, fun r => ?_⟩
  · refine tg_name (et_yes ⟨fun _ => ?_, fun e => nomatch e⟩)
    walk_at "sk"
    refine ⟨rfl, callK0 ⟨p, s, rfl, (hP.bd p hp).sm (by decide), rfl, ?_⟩⟩
    walk_at "sk"
    refine oc_abs ?_
    exact ⟨_, rfl, rfl, sub_refl _⟩
  · walk_at "sk"
    have eb : (M.filterMap fun p => some (PyData.int (ab (p.dot s)))) = (M.map fun p => ab (p.dot s)).map PyData.int := by rw [fm_some, List.map_map]; rfl
    refine oc_max (ns := M.map fun p => ab (p.dot s)) (by rw [← eb]; exact List.mem_cons_self ..) (by rw [List.length_map]; exact List.length_pos_iff.mpr hne) fun m hm hmax => ?_
    obtain ⟨p0, hp0, em⟩ := List.mem_map.mp hm
    have hmb : m.natAbs < 2 ^ (12 + b + 2) := by
      rw [← em, ab_eq, Int.natAbs_natCast]
      exact (hP.bd p0 hp0).dot hb
    have hm0 : 0 ≤ m := by rw [← em, ab_eq]; omega
    have hall : ∀ p ∈ M, ab (p.dot s) < 1 + m := fun p hp => by
      have := hmax _ (List.mem_map.mpr ⟨p, hp, rfl⟩)
      omega
    have ht : (1 + m).natAbs < 2 ^ (b + 15) := by
      have e : 2 ^ (b + 15) = 2 ^ (12 + b + 2) + 2 ^ (12 + b + 2) := by rw [show b + 15 = (12 + b + 2) + 1 by omega, Nat.pow_succ]; omega
      have : 0 < 2 ^ (12 + b + 2) := Nat.pow_pos (by decide)
      omega
    have hn : Near M v s (V3.add (V3.sc (1 + m) v) s).low := ⟨1 + m, by omega, hall, rfl⟩
    have hnz := near_nz (v := v) (s := s) (t := 1 + m) hv h0 (by omega)
    have hbd : (V3.add (V3.sc (1 + m) v) s).Bd (b + a + 16) := (V3.Bd.near ht ha hb (by omega)).mono (by omega)
    have ht64 : (1 + m).natAbs < 2 ^ 64 := Nat.lt_of_lt_of_le ht (Nat.pow_le_pow_right (by decide) (by omega))
    walk_at "sk"
    refine ev_lcF (ei_rng1 ?_) (own_name (by decide))
    walk_at "sk"
    refine ⟨3, rfl, by decide, by decide, Nat, [0, 1, 2], fun i => .dat (.int (0 + (i : Int))), fun i => some (.int ((1 + m) * v.l.getD i 0 + s.l.getD i 0)), rfl, by decide, (fun q hq => nomatch hq), fun i hi => ?_, fun l => ?_⟩
    · simp only [List.mem_cons, List.not_mem_nil, or_false] at hi
      refine tg_name (et_yes ⟨fun _ => ?_, fun e => nomatch e⟩)
      rcases hi with rfl | rfl | rfl
      all_goals
        walk_at "sk"
        · exact .inl (by omega)
        · exact ⟨rfl, sub_refl _⟩
    · walk_at "sk"
      refine ⟨rfl, [(l, .lst [.int (V3.add (V3.sc (1 + m) v) s).x, .int (V3.add (V3.sc (1 + m) v) s).y, .int (V3.add (V3.sc (1 + m) v) s).z])], _, .refl _, V3.add (V3.sc (1 + m) v) s, l, rfl, hbd.mono (by omega), rfl, ?_⟩
      rw [red_low hnz]
      exact ⟨[(x, .lst (M.map V3.d))], sub_cons (sub_refl _), q _ hn hbd.low⟩

/-! ### planes of the sky -/
theorem nodup_single {α : Type} {l : List α} {a : α} (hn : l.Nodup) (h : ∀ x, x ∈ l ↔ x = a) : l = [a] := by
  have := (List.perm_ext_iff_of_nodup hn (by simp : [a].Nodup)).mpr fun x => by rw [h, List.mem_singleton]
  exact List.perm_singleton.mp this
theorem plV_leaf (s : Bool) (v : V3) : (Tr.leaf s v).plV = [v.fst] := nodup_single (Tr.plV_nodup _) fun x => by
  rw [Tr.mem_plV]
  simp [Tr.leaves]
theorem map_l_nodup {F : List V3} (h : F.Nodup) : (F.map V3.l).Nodup := List.pairwise_map.mpr (h.imp fun hn e => hn (V3.l_inj e))
theorem sorted_plV {t : Tr} {F : List V3} (hn : F.Nodup) (h : ∀ p, p ∈ F ↔ ∃ v ∈ t.leaves, p = v.fst) : (Nw.sortI (F.map V3.l)).map tupI = t.plV.map V3.d := by
  rw [tup_plV, Tr.plT_sorted t (map_l_nodup hn) fun k => ?_]
  rw [List.mem_map]
  constructor
  · rintro ⟨p, hp, rfl⟩
    obtain ⟨v, hv, rfl⟩ := (h p).mp hp
    exact ⟨v, hv, rfl⟩
  · rintro ⟨v, hv, rfl⟩
    exact ⟨v.fst, (h _).mpr ⟨v, hv, rfl⟩, rfl⟩
theorem any_d (F : List V3) (n : V3) : ((F.map V3.d).any fun z => PyData.eqv z n.d) = decide (n ∈ F) := by
  induction F with
  | nil => rfl
  | cons p F ih =>
    rw [List.map_cons, List.any_cons, ih, eqv_d]
    by_cases h : p = n
    · subst h; simp
    · simp [h, Ne.symm h]
theorem shaped_ds {F : List V3} : SeqAt.shaped (.list (F.map V3.d)) = true := by
  have e : F.map V3.d = (F.map V3.l).map tupI := by rw [List.map_map]; rfl
  rw [e]
  exact shaped_rows
theorem fm_vs (c : V3 → Bool) (ks : List V3) : (ks.filterMap fun k => if c k then some k.d else none) = (ks.filter c).map V3.d := by
  induction ks with
  | nil => rfl
  | cons n k ih =>
    by_cases h : c n
    · simp only [List.filterMap_cons, List.filter_cons, h, if_true, List.map_cons, ih]
    · simp only [List.filterMap_cons, List.filter_cons, h, if_false, ih]; rfl
def w_lplanes (n : Nat) : WT := fun ks O Φ => ∃ t : Tr, ks = [.dat t.d] ∧ t.fit ∧ t.dep ≤ n ∧ t.leaves.length ≤ 24 ∧ O = [] ∧ ∀ p, Φ (.ptr p) [(p, .lst (t.plV.map V3.d))]
theorem Tr.kids_fit {t u : Tr} (f : t.fit) (h : u ∈ t.kids) : u.fit := by
  cases t with
  | all => simp [Tr.kids] at h
  | leaf s v => simp [Tr.kids] at h
  | not t =>
    simp [Tr.kids] at h
    subst h
    rw [Tr.fit] at f
    exact f
  | grp a ts =>
    rw [Tr.fit] at f
    exact Tr.fitL_all.mp f.2.2 u h
theorem Tr.mem_kids {t u : Tr} (hne : ∀ s v, t ≠ .leaf s v) {v : V3} : v ∈ t.leaves ↔ ∃ u ∈ t.kids, v ∈ u.leaves := by
  rw [t.leaves_kids hne, List.mem_flatMap]
theorem cl_law_planes (T : Bt mg) (F : Df K mg "_law_planes" s_law_planes f fd) (C_law_rim : Cl P w K mg base "_law_rim" 3 1 w_lrim) : ∀ n, Cl P w K mg base "_law_planes" (4 + n) 1 (w_lplanes n)
  | 0 => cl_none F (ps := ["_law_sky_here"]) (fun _ _ _ _ _ _ us hl => match us, hl with | [_], _ => rfl) fun ks O Φ ⟨t, _, _, h, _⟩ => by have := t.dep_pos; omega
  | n + 1 => by
    have C_law_planes := cl_law_planes T F C_law_rim n
    show Cl P w K mg base "_law_planes" (4 + n + 1) 1 (w_lplanes (n + 1))
    have nd := sc_law_planes.nd
    refine cl_of (4+n) 1 F sc_law_planes rfl (fun _ _ _ _ _ _ us hl => match us, hl with | [_], _ => rfl) fun cdv A outer s H E hr => ⟨_, (pss_cons (ps_if (pt_cmpR (kEqD (K := K) hr.units) (pe_ix (kIx (K := K)) (pv 0) pe_int (fun _ _ => rfl)) pe_str (nomark _)) (pss_one (ps_ret (pe_lst pa_nil))) pss_nil)
      (pss_cons (ps_if (pt_cmpR (kIn (K := K)) (pe_ix (kIx (K := K)) (pv 0) pe_int (fun _ _ => rfl)) (pe_tup (pa_cons pe_str (pa_cons pe_str pa_nil))) (by with_unfolding_all rfl)) (pss_one (ps_ret (pe_lst (pa_cons (pe_cl C_law_rim (hr.mono (by omega)) (by rfl) (pa_cons (pe_ix (kIx (K := K)) (pv 0) pe_int (fun _ _ => rfl)) pa_nil)) pa_nil)))) pss_nil)
      (pss_cons (ps_set (i := 1) nd rfl (Or.inr rfl) (pe_lst pa_nil))
      (pss_cons (ps_for PassesOwn.never rfl (kList (K := K) (pe_ifExp (pt_cmpR (kEqD (K := K) hr.units) (pe_ix (kIx (K := K)) (pv 0) pe_int (fun _ _ => rfl)) pe_str (nomark _)) (pe_lst (pa_cons (pe_ix (kIx (K := K)) (pv 0) pe_int (fun _ _ => rfl)) pa_nil)) (pe_callTy (kListOf (K := K)) (by rfl) T.list_ (by decide +kernel) (pa_cons (pe_ix (kIx (K := K)) (pv 0) pe_int (fun _ _ => rfl)) pa_nil)))) (pg_name (i := 2) nd rfl (Or.inl rfl)) (pss_one (ps_set (i := 1) nd rfl (Or.inr rfl) (pe_op op_cat (pv 1) (pe_lc (own := [("_law_n", 3)]) (g := gName 3) (by rfl) nd (kList (K := K) (pe_cl C_law_planes (hr.mono (by omega)) (by rfl) (pa_cons (pv 2) pa_nil))) (blkOk_by (own := [("_law_n", 3)]) (N := N_law_planes) (sc := defScope s_law_planes) (by decide +kernel)) (fun _ _ _ _ _ => (pg_name (i := 3) nd rfl (Or.inl rfl))) (fun _ _ _ _ _ => (pts_one (pt_cmpR (kNotInD (K := K) (hu65 hr)) (pv 3) (pv 1) (by with_unfolding_all rfl)))) (fun _ _ _ _ _ => (pv 3)))))))
      (pss_one (ps_ret (pe_callB (kSorted (K := K) rfl hr.units) (by rfl) T.sorted_ (by decide +kernel) (pa_cons (pv 1) pa_nil)))))))), ?_⟩
    intro B ks O Φ hl ⟨t, e1, hf, hd, h24, e2, q⟩
    subst e1 e2
    have hne : (∀ s v, t ≠ .leaf s v) → ∀ v, v ∈ t.leaves ↔ ∃ u ∈ t.kids, v ∈ u.leaves := fun h v => Tr.mem_kids (u := t) h
    -- the loop, behind the list of kids
    have loop : (∀ s v, t ≠ .leaf s v) → ∀ (r c : Addr), ∃ I : Nat → Sl → Cs → Prop, I 0 [some (.dat t.d), some (.ptr r), none, none] [(c, .lst (t.kids.map Tr.d)), (r, .lst [])] ∧ (∀ i ρ' O', i ≤ ((t.kids.map Tr.d).map Kn.dat).length → I i ρ' O' → ∀ q ∈ [(c, Cell.lst (t.kids.map Tr.d))], q ∈ O') ∧
        (∀ i k ρ' O', ((t.kids.map Tr.d).map Kn.dat)[i]? = some k → I i ρ' O' → Tg B (gName 2) k ρ' O' fun ρ2 O2 => Sx B (tAsg (tOp rCat (tVar 1) (tLc (iList K (tCall (spW 1 (w_lplanes n)) [] E0 (tCons (tVar 2) tNil))) (gName 3) (tTest (tOp (rNotInD K) (tVar 3) (tVar 1))) (tVar 3) [3])) (gName 1)) ρ2 O2
          ⟨fun ρ3 O3 => ∃ O4, Sub O4 O3 ∧ I (i + 1) ρ3 O4, (endsOf Φ).rt, fun ρ' O' => Sx B (tRet (tCB (Nw.rSortT K) (tCons (tVar 1) tNil))) ρ' O' (endsOf Φ), fun ρ3 O3 => ∃ O4, Sub O4 O3 ∧ I (i + 1) ρ3 O4⟩) ∧
        ∀ ρ' O', I ((t.kids.map Tr.d).map Kn.dat).length ρ' O' → Sx B (tRet (tCB (Nw.rSortT K) (tCons (tVar 1) tNil))) ρ' O' (endsOf Φ) := fun hnl r c => by
      refine ⟨fun i ρ' O' => ∃ (r : Addr) (G : List V3), O' = [(c, .lst (t.kids.map Tr.d)), (r, .lst (G.map V3.d))] ∧ G.Nodup ∧ (∀ p, p ∈ G ↔ ∃ u ∈ t.kids.take i, ∃ v ∈ u.leaves, p = v.fst) ∧ ∃ y, ρ' = [some (.dat t.d), some (.ptr r), y, none],
        ⟨r, [], rfl, List.nodup_nil, by simp, _, rfl⟩, fun i ρ' O' _ hI q hq => ?_, fun i k ρ' O' hk hI => ?_, fun ρ' O' hI => ?_⟩
      · obtain ⟨r, G, rfl, _⟩ := hI
        rw [List.mem_singleton] at hq
        rw [hq]
        exact List.mem_cons_self ..
      · obtain ⟨r, G, rfl, hG, hmem, y, rfl⟩ := hI
        rw [List.getElem?_map, List.getElem?_map] at hk
        cases hu : t.kids[i]? with
        | none => rw [hu] at hk; cases hk
        | some u =>
          rw [hu] at hk
          cases hk
          have hum := List.mem_of_getElem? hu
          have huf := Tr.kids_fit hf hum
          have hul : u.leaves.length ≤ 24 := Nat.le_trans (Tr.kids_leaves hum) h24
          have et : t.kids.take (i + 1) = t.kids.take i ++ [u] := by rw [List.take_add_one, hu]; rfl
          have hpl : u.plV.length ≤ 24 := by
            have := nodup_le (m := u.leaves.map V3.fst) u.plV_nodup fun p hp => by
              obtain ⟨v, hv, rfl⟩ := Tr.mem_plV.mp hp
              exact List.mem_map.mpr ⟨v, hv, rfl⟩
            rw [List.length_map] at this
            omega
          have hGl : G.length ≤ 24 := by
            have := nodup_le (m := t.leaves.map V3.fst) hG fun p hp => by
              obtain ⟨u, hu, v, hv, rfl⟩ := (hmem p).mp hp
              exact List.mem_map.mpr ⟨v, (hne hnl v).mpr ⟨u, List.mem_of_mem_take hu, hv⟩, rfl⟩
            rw [List.length_map] at this
            omega
          walk_at "sk"
          refine ev_lcF (ei_list ?_) (own_name (by decide))
          walk_at "sk"
          refine ⟨rfl, callK0 ⟨u, rfl, huf, by have := Tr.kids_dep hum; omega, hul, rfl, fun s => ⟨s, _, rfl, List.mem_cons_self .., V3, u.plV, fun p => .dat p.d, fun p => if !(decide (p ∈ G)) then some p.d else none, by rw [List.map_map]; rfl, by omega, fun q hq => ?_, fun p hp => ?_, fun l => ?_⟩⟩⟩
          · rw [List.mem_singleton] at hq
            rw [hq]
            exact List.mem_cons_self ..
          · refine tg_name ?_
            walk_at "sk"
            refine o_notInD (ds := G.map V3.d) (.dat _) (.lst (List.mem_cons_of_mem _ (List.mem_cons_of_mem _ (List.mem_cons_self ..)))) rfl shaped_ds ?_
            rw [any_d]
            refine ⟨_, rfl, fun h => ?_, fun h => ⟨by show (if (!(decide (p ∈ G))) = true then _ else _) = _; rw [h]; rfl, sub_refl _⟩⟩
            walk_at "sk"
            exact ⟨by show (if (!(decide (p ∈ G))) = true then _ else _) = _; rw [h]; rfl, sub_refl _⟩
          · rw [fm_vs]
            refine o_cat (xs := G.map V3.d) (by simp) (List.mem_cons_self ..) ?_ fun l2 => ?_
            · rw [List.length_map, List.length_map]
              have := List.length_filter_le (fun p => !(decide (p ∈ G))) u.plV
              omega
            · walk_at "sk"
              refine ⟨[(c, .lst (t.kids.map Tr.d)), (l2, .lst ((G ++ u.plV.filter fun p => !(decide (p ∈ G))).map V3.d))], ?_, l2, _, rfl, ?_, fun p => ?_, _, rfl⟩
              · rw [List.map_append]
                exact ⟨[(l, .lst ((u.plV.filter fun p => !(decide (p ∈ G))).map V3.d)), (s, .lst (u.plV.map V3.d)), (r, .lst (G.map V3.d))], List.perm_middle (l₁ := [_, _, _]) (l₂ := [_])⟩
              · refine List.nodup_append.mpr ⟨hG, u.plV_nodup.sublist (List.filter_sublist ..), fun a ha b hb e => ?_⟩
                subst e
                have := (List.mem_filter.mp hb).2
                simp [ha] at this
              · rw [List.mem_append, hmem, List.mem_filter, Tr.mem_plV, et]
                constructor
                · rintro (⟨u', hu', v, hv, rfl⟩ | ⟨⟨v, hv, rfl⟩, _⟩)
                  · exact ⟨u', List.mem_append_left _ hu', v, hv, rfl⟩
                  · exact ⟨u, by simp, v, hv, rfl⟩
                · rintro ⟨u', hu', v, hv, rfl⟩
                  rcases List.mem_append.mp hu' with hu' | hu'
                  · exact .inl ⟨u', hu', v, hv, rfl⟩
                  · rw [List.mem_singleton.mp hu'] at hv
                    by_cases hin : v.fst ∈ G
                    · exact .inl ((hmem _).mp hin)
                    · exact .inr ⟨⟨v, hv, rfl⟩, by simp [hin]⟩
      · obtain ⟨r, G, rfl, hG, hmem, y, rfl⟩ := hI
        rw [List.length_map, List.length_map, List.take_length] at hmem
        have hmem2 : ∀ p, p ∈ G ↔ ∃ v ∈ t.leaves, p = v.fst := fun p => by
          rw [hmem]
          constructor
          · rintro ⟨u, hu, v, hv, rfl⟩; exact ⟨v, (hne hnl v).mpr ⟨u, hu, hv⟩, rfl⟩
          · rintro ⟨v, hv, rfl⟩
            obtain ⟨u, hu, hv⟩ := (hne hnl v).mp hv
            exact ⟨u, hu, v, hv, rfl⟩
        walk_at "sk"
        have eG : G.map V3.d = (G.map V3.l).map tupI := by rw [List.map_map]; rfl
        refine oc_sorted (ks := G.map V3.l) (n := 3) (.lst (by rw [← eG]; simp)) (fun k hk => ?_) (.inl (by decide)) fun s => ?_
        · obtain ⟨p, _, rfl⟩ := List.mem_map.mp hk
          rfl
        · rw [sorted_plV hG hmem2]
          exact ⟨[(s, .lst (t.plV.map V3.d))], sub_keep (sub_nil _), q s⟩
    cases t with
    | all =>
      rw [plV_all] at q
      walk_at "sk"
      refine ev_lst ?_
      walk_at "sk"
      exact fun p => ⟨_, sub_refl _, q p⟩
    | leaf s v =>
      rw [plV_leaf] at q
      rw [Tr.fit] at hf
      cases s
      all_goals
        walk_at "sk"
        refine ev_lst ?_
        walk_at "sk"
        refine ⟨rfl, callK0 ⟨v, rfl, hf.1, hf.2.mono (by decide), rfl, ?_⟩⟩
        walk_at "sk"
        exact fun p => ⟨_, sub_refl _, q p⟩
    | not t =>
      walk_at "sk"
      refine ev_lst ?_
      walk_at "sk"
      intro r
      refine tg_name ?_
      refine sx_seq ?_
      refine sx_for (ei_list ?_)
      walk_at "sk"
      refine ev_lst ?_
      walk_at "sk"
      intro c
      exact ⟨c, _, rfl, List.mem_cons_self .., loop (fun s v e => nomatch e) r c⟩
    | grp a ts =>
      cases a
      all_goals
        walk_at "sk"
        refine ev_lst ?_
        walk_at "sk"
        intro r
        refine tg_name ?_
        refine sx_seq ?_
        refine sx_for (ei_list ?_)
        walk_at "sk"
        refine oc_list (.tup _) fun c => ?_
        rw [Tr.dL_map]
        exact ⟨c, _, rfl, List.mem_cons_self .., loop (fun s v e => nomatch e) r c⟩
end
end Sk


/-! La6: ends -/
namespace Sk
open PySem PySem.Spec PyProof.Rows L2
local macro_rules | `(tactic| walk_at "sk") => `(tactic| repeat' (first
  | ((with_reducible show Ev _ (tVar _) _ _ _); refine ev_var rfl ?_) | with_reducible refine ev_int ?_ | with_reducible refine ev_bl ?_ | with_reducible refine ev_non ?_ | with_reducible refine ev_str ?_ | with_reducible refine ev_ty ?_ | with_reducible refine ev_ref ?_
  | with_reducible refine ev_op ?_ | with_reducible refine ev_un ?_ | with_reducible refine ev_cb ?_ | with_reducible refine ea_cons ?_ | with_reducible refine ea_nil ?_
  | with_reducible refine ev_if ?_ | with_reducible refine ev_and ?_ | with_reducible refine ev_or ?_ | with_reducible refine ev_not ?_ | with_reducible refine ev_tup ?_ | with_reducible refine ev_call ?_
  | with_reducible refine sx_seq ?_ | with_reducible refine sx_asg ?_ | with_reducible refine tg_name ?_ | with_reducible refine sx_ret ?_ | with_reducible refine sx_next ?_ | with_reducible refine sx_drop ?_ | with_reducible refine sx_if ?_
  | with_reducible refine et_chain ?_ | with_reducible refine et_test ?_ | with_reducible refine et_B ?_ | with_reducible refine et_not ?_ | with_reducible refine et_and ?_ | with_reducible refine et_or ?_
  | with_reducible refine o_add ?_ | with_reducible refine o_sub ?_ | with_reducible refine o_lt ?_ | with_reducible refine o_le ?_ | with_reducible refine o_gt ?_ | with_reducible refine o_ge ?_
  | with_reducible refine o_neg ?_ | with_reducible refine o_subB ?_ | with_reducible refine o_mul ?_ ?_
  | ((with_reducible show Op2 _ (rIx _) _ _ _ _); refine o_ix (.tup _) rfl ?_)
  | ((with_reducible show Op2 _ (rEqD _) _ _ _ _); (first | refine o_eqD (.dat _) (.dat _) rfl rfl ?_ | refine o_eqD (.dat _) (.dat _) (by decide +kernel) (by decide +kernel) ?_))
  | ((with_reducible show Op2 _ (rNeD _) _ _ _ _); (first | refine o_neD (.dat _) (.dat _) rfl rfl ?_ | refine o_neD (.dat _) (.dat _) (by decide +kernel) (by decide +kernel) ?_))
  | ((with_reducible show Op2 _ (rIn _ false) _ _ _ _); refine o_in (.tup _) (by rfl) (by rfl) ?_) | ((with_reducible show Op2 _ (rIn _ true) _ _ _ _); refine o_notIn (.tup _) (by rfl) (by rfl) ?_)
  | ((with_reducible show OpC _ (rIsi _) _ _ _); (first | refine oc_isi (b := true) (by rfl) ?_ | refine oc_isi (b := false) (by rfl) ?_))
  | ((with_reducible show OpC _ _ _ _ _); refine oc_len (.tup _) ?_)
  | ((with_reducible show Tg _ (gTup _ _ _) _ _ _ _); (first | with_reducible refine tg_pair ?_ | refine tg_tup rfl ?_)) | ((with_reducible show Tgs _ (gCons _ _) _ _ _ _); refine tgs_cons ?_) | ((with_reducible show Tgs _ gNil _ _ _ _); refine tgs_nil ?_)
  | ((with_reducible show ∃ ds, alld _ ds ∧ _); (first
    | refine ⟨[_, _, _], ⟨rfl, rfl, rfl, trivial⟩, Nat.le_of_ble_eq_true rfl, ?_⟩ | refine ⟨[_, _], ⟨rfl, rfl, trivial⟩, Nat.le_of_ble_eq_true rfl, ?_⟩ | refine ⟨[_], ⟨rfl, trivial⟩, Nat.le_of_ble_eq_true rfl, ?_⟩ | refine ⟨[], trivial, Nat.le_of_ble_eq_true rfl, ?_⟩
    | refine ⟨[_, _, _, _], ⟨rfl, rfl, rfl, rfl, trivial⟩, Nat.le_of_ble_eq_true rfl, ?_⟩ | refine ⟨[_, _, _, _, _], ⟨rfl, rfl, rfl, rfl, rfl, trivial⟩, Nat.le_of_ble_eq_true rfl, ?_⟩ | refine ⟨[_, _, _, _, _, _], ⟨rfl, rfl, rfl, rfl, rfl, rfl, trivial⟩, Nat.le_of_ble_eq_true rfl, ?_⟩
    | refine ⟨[_, _, _, _, _, _, _], ⟨rfl, rfl, rfl, rfl, rfl, rfl, rfl, trivial⟩, Nat.le_of_ble_eq_true rfl, ?_⟩))
  | ((with_reducible show (_ = true → _) ∧ (_ = false → _)); (first | refine pickT rfl ?_ | refine pickF rfl ?_))
  | ((with_reducible show ∃ _, Kn.dat (PyData.bool _) = Kn.dat (PyData.bool _) ∧ _); refine ⟨_, rfl, ?_⟩)
  | ((with_reducible show ∃ _, Kn.dat _ = Kn.dat _ ∧ _); refine ⟨_, rfl, ?_⟩) | fail))

section
variable {P : Program} {w : World} {K : PySem.W.Frag} {mg : Str → Option Value} {base : Heap} {f : Addr} {fd : FuncData}

theorem cor_len {M G : List V3} (h5 : M.length ≤ 5) (hn : G.Nodup) (h : ∀ e ∈ G, Cor M e) : G.length ≤ 50 := by
  have := nodup_le (m := M.flatMap fun p => M.flatMap fun q => [(p.cross q).low, (p.cross q).low.neg]) hn fun e he => by
    obtain ⟨p, hp, q, hq, _, hv⟩ := h e he
    exact List.mem_flatMap.mpr ⟨p, hp, List.mem_flatMap.mpr ⟨q, hq, by rcases hv with rfl | rfl <;> simp⟩⟩
  have l1 : ∀ (Q : List V3) (p : V3), (Q.flatMap fun q => ([(p.cross q).low, (p.cross q).low.neg] : List V3)).length = 2 * Q.length := fun Q p => by
    induction Q with
    | nil => rfl
    | cons q Q ih => rw [List.flatMap_cons, List.length_append, ih, List.length_cons]; simp; omega
  have l2 : ∀ Q R : List V3, (Q.flatMap fun p => R.flatMap fun q => ([(p.cross q).low, (p.cross q).low.neg] : List V3)).length = 2 * R.length * Q.length := fun Q R => by
    induction Q with
    | nil => rfl
    | cons q Q ih => rw [List.flatMap_cons, List.length_append, ih, l1, List.length_cons, Nat.mul_succ]; omega
  rw [l2] at this
  have : 2 * M.length * M.length ≤ 2 * 5 * 5 := Nat.mul_le_mul (Nat.mul_le_mul_left _ h5) h5
  omega
/-- met so far: the pairs below (i, j) -/
def PR (M : List V3) (i j : Nat) (e : V3) : Prop := ∃ a b p q, M[a]? = some p ∧ M[b]? = some q ∧ a < b ∧ (b < i ∨ (b = i ∧ a < j)) ∧ (e = (p.cross q).low ∨ e = (p.cross q).low.neg)
theorem PR.cor {M : List V3} (hM : Pl M) {i j : Nat} {e : V3} (h : PR M i j e) : Cor M e := by
  obtain ⟨a, b, p, q, ha, hb, hab, _, he⟩ := h
  refine ⟨p, List.mem_of_getElem? ha, q, List.mem_of_getElem? hb, fun z => ?_, he⟩
  subst z
  have := (List.getElem?_inj (List.getElem?_eq_some_iff.mp ha).1 hM.nd).mp (ha.trans hb.symm)
  omega
theorem PR.all {M : List V3} (hM : Pl M) {e : V3} : PR M M.length 0 e ↔ Cor M e := by
  refine ⟨PR.cor hM, fun ⟨p, hp, q, hq, hne, he⟩ => ?_⟩
  obtain ⟨a, ha⟩ := List.mem_iff_getElem?.mp hp
  obtain ⟨b, hb⟩ := List.mem_iff_getElem?.mp hq
  have la := (List.getElem?_eq_some_iff.mp ha).1
  have lb := (List.getElem?_eq_some_iff.mp hb).1
  rcases Nat.lt_trichotomy a b with h | h | h
  · exact ⟨a, b, p, q, ha, hb, h, .inl lb, he⟩
  · subst h
    rw [ha] at hb
    exact absurd (Option.some.inj hb) hne
  · refine ⟨b, a, q, p, hb, ha, h, .inl la, ?_⟩
    have hz := V3.cross_nz (hM.nm q hq) (hM.nm p hp) (Ne.symm hne)
    have e2 : (p.cross q).low = (q.cross p).low.neg := by rw [V3.cross_swap, V3.neg_low hz]
    rcases he with rfl | rfl
    · rw [e2]; exact .inr rfl
    · rw [e2, V3.neg_neg]; exact .inl rfl
theorem PR.row {M : List V3} {i : Nat} {e : V3} : PR M i i e ↔ PR M (i + 1) 0 e := by
  constructor
  · rintro ⟨a, b, p, q, ha, hb, hab, h, he⟩
    exact ⟨a, b, p, q, ha, hb, hab, .inl (by omega), he⟩
  · rintro ⟨a, b, p, q, ha, hb, hab, h, he⟩
    exact ⟨a, b, p, q, ha, hb, hab, by omega, he⟩
theorem PR.next {M : List V3} {i j : Nat} {p q e : V3} (hj : M[j]? = some p) (hi : M[i]? = some q) (h : j < i) : PR M i (j + 1) e ↔ PR M i j e ∨ e = (p.cross q).low ∨ e = (p.cross q).low.neg := by
  constructor
  · rintro ⟨a, b, p', q', ha, hb, hab, hh, he⟩
    by_cases hc : b = i ∧ a = j
    · obtain ⟨rfl, rfl⟩ := hc
      rw [hj] at ha
      rw [hi] at hb
      cases ha
      cases hb
      exact .inr he
    · exact .inl ⟨a, b, p', q', ha, hb, hab, by omega, he⟩
  · rintro (⟨a, b, p', q', ha, hb, hab, hh, he⟩ | he)
    · exact ⟨a, b, p', q', ha, hb, hab, by omega, he⟩
    · exact ⟨j, i, p, q, hj, hi, h, .inr ⟨rfl, by omega⟩, he⟩
theorem neg_ne {v : V3} (h : v.nz) : v ≠ v.neg := fun e => h (by
  have hx := congrArg V3.x e
  have hy := congrArg V3.y e
  have hz := congrArg V3.z e
  unfold V3.neg at hx hy hz
  simp only at hx hy hz
  omega)
def w_lends : WT := fun ks O Φ => ∃ (M : List V3) (x : Addr), ks = [.ptr x] ∧ Pl M ∧ O = [(x, .lst (M.map V3.d))] ∧ ∀ p (vs : List V3), (∀ v, v ∈ vs ↔ Cor M v) → vs.length ≤ 50 → Φ (.ptr p) [(p, .lst (vs.map V3.d)), (x, .lst (M.map V3.d))]
theorem cl_law_ends (T : Bt mg) (F : Df K mg "_law_ends" s_law_ends f fd) (C_law_reduced : Cl P w K mg base "_law_reduced" 2 1 w_lreduced) (C_law_cross : Cl P w K mg base "_law_cross" 1 2 w_lcross) (C_law_minus : Cl P w K mg base "_law_minus" 1 1 w_lminus) : Cl P w K mg base "_law_ends" 3 1 w_lends := by
  have nd := sc_law_ends.nd
  refine cl_of 2 1 F sc_law_ends rfl (fun _ _ _ _ _ _ us hl => match us, hl with | [_], _ => rfl) fun cdv A outer s H E hr => ⟨_, (pss_cons (ps_set (i := 1) nd rfl (Or.inr rfl) (pe_lst pa_nil))
      (pss_cons (ps_for PassesOwn.never rfl (pi_range1 (by rfl) T.range_ (pa_cons (pe_callB (kLen (K := K)) (by rfl) T.len_ (by decide +kernel) (pa_cons (pv 0) pa_nil)) pa_nil)) (pg_name (i := 2) nd rfl (Or.inl rfl)) (pss_one (ps_for PassesOwn.never rfl (pi_range1 (by rfl) T.range_ (pa_cons (pv 2) pa_nil)) (pg_name (i := 3) nd rfl (Or.inl rfl)) (pss_cons (ps_set (i := 4) nd rfl (Or.inl rfl) (pe_cl C_law_reduced (hr.mono (by decide)) (by rfl) (pa_cons (pe_cl C_law_cross (hr.mono (by decide)) (by rfl) (pa_cons (pe_ix (kIx (K := K)) (pv 0) (pv 3) (fun _ _ => rfl)) (pa_cons (pe_ix (kIx (K := K)) (pv 0) (pv 2) (fun _ _ => rfl)) pa_nil))) pa_nil)))
      (pss_one (ps_set (i := 1) nd rfl (Or.inr rfl) (pe_op op_cat (pv 1) (pe_lc (own := [("_law_end", 5)]) (g := gName 5) (by rfl) nd (kList (K := K) (pe_lst (pa_cons (pv 4) (pa_cons (pe_cl C_law_minus (hr.mono (by decide)) (by rfl) (pa_cons (pv 4) pa_nil)) pa_nil)))) (blkOk_by (own := [("_law_end", 5)]) (N := N_law_ends) (sc := defScope s_law_ends) (by decide +kernel)) (fun _ _ _ _ _ => (pg_name (i := 5) nd rfl (Or.inl rfl))) (fun _ _ _ _ _ => (pts_one (pt_cmpR (kNotInD (K := K) (hu65 hr)) (pv 5) (pv 1) (by with_unfolding_all rfl)))) (fun _ _ _ _ _ => (pv 5))))))))))
      (pss_one (ps_ret (pv 1))))), ?_⟩
  intro B ks O Φ hl ⟨M, x, e1, hP, e2, q⟩
  subst e1 e2
  have h5 := hP.le
  walk_at "sk"
  refine ev_lst ?_
  walk_at "sk"
  intro g0
  walk_at "sk"
  refine sx_for (ei_rng1 ?_)
  walk_at "sk"
  refine oc_len (.lst (List.mem_cons_of_mem _ (List.mem_cons_self ..))) ?_
  walk_at "sk"
  have hml : (M.map V3.d).length = M.length := List.length_map ..
  rw [hml]
  refine ⟨_, rfl, by omega, by omega, fun i ρ' O' => ∃ (g : Addr) (G : List V3), O' = [(g, .lst (G.map V3.d)), (x, .lst (M.map V3.d))] ∧ G.Nodup ∧ (∀ e, e ∈ G ↔ PR M i 0 e) ∧ ∃ y2 y3 y4, ρ' = [some (.ptr x), some (.ptr g), y2, y3, y4, none],
    ⟨g0, [], rfl, List.nodup_nil, fun e => ⟨(fun h => nomatch h), fun ⟨a, b, _, _, _, _, h1, h2, _⟩ => by omega⟩, _, _, _, rfl⟩, (fun _ _ _ _ _ q hq => nomatch hq), fun i k ρ' O' hk hI => ?_, fun ρ' O' hI => ?_⟩
  · obtain ⟨g, G, rfl, hG, hmem, y2, y3, y4, rfl⟩ := hI
    have hi : i < M.length ∧ k = .dat (.int (0 + (i : Int))) := by
      rw [List.getElem?_map] at hk
      cases hr : (List.range (M.length : Int).toNat)[i]? with
      | none => rw [hr] at hk; cases hk
      | some d =>
        rw [hr] at hk
        obtain ⟨h1, h2⟩ := List.getElem?_eq_some_iff.mp hr
        rw [List.getElem_range] at h2
        rw [List.length_range] at h1
        subst h2
        cases hk
        exact ⟨by omega, rfl⟩
    obtain ⟨hil, rfl⟩ := hi
    obtain ⟨pk, hpk⟩ : ∃ p, M[i]? = some p := ⟨M[i], List.getElem?_eq_getElem hil⟩
    have hpkm := List.mem_of_getElem? hpk
    rw [Int.zero_add]
    refine tg_name ?_
    refine sx_for (ei_rng1 ?_)
    walk_at "sk"
    refine ⟨_, rfl, by omega, by omega, fun j ρ' O' => ∃ (g : Addr) (G : List V3), O' = [(g, .lst (G.map V3.d)), (x, .lst (M.map V3.d))] ∧ G.Nodup ∧ (∀ e, e ∈ G ↔ PR M i j e) ∧ ∃ y3 y4, ρ' = [some (.ptr x), some (.ptr g), some (.dat (.int i)), y3, y4, none],
      ⟨g, G, rfl, hG, hmem, _, _, rfl⟩, (fun _ _ _ _ _ q hq => nomatch hq), fun j k ρ' O' hk hI => ?_, fun ρ' O' hI => ?_⟩
    · obtain ⟨g, G, rfl, hG, hmem, y3, y4, rfl⟩ := hI
      have hj : j < i ∧ k = .dat (.int (0 + (j : Int))) := by
        rw [List.getElem?_map] at hk
        cases hr : (List.range (i : Int).toNat)[j]? with
        | none => rw [hr] at hk; cases hk
        | some d =>
          rw [hr] at hk
          obtain ⟨h1, h2⟩ := List.getElem?_eq_some_iff.mp hr
          rw [List.getElem_range] at h2
          rw [List.length_range] at h1
          subst h2
          cases hk
          exact ⟨by omega, rfl⟩
      obtain ⟨hjl, rfl⟩ := hj
      obtain ⟨pj, hpj⟩ : ∃ p, M[j]? = some p := ⟨M[j], List.getElem?_eq_getElem (by omega)⟩
      have hpjm := List.mem_of_getElem? hpj
      have hne : pj ≠ pk := fun e => by
        subst e
        have := (List.getElem?_inj (by omega) hP.nd).mp (hpj.trans hpk.symm)
        omega
      have hz := V3.cross_nz (hP.nm pj hpjm) (hP.nm pk hpkm) hne
      have hln := V3.low_nz hz
      have hcl : ∀ e ∈ G, Cor M e := fun e he => ((hmem e).mp he).cor hP
      have hGl := cor_len h5 hG hcl
      have aj : atI (M.map V3.d) (j : Int) = some pj.d := atI_nat (by rw [List.getElem?_map, hpj]; rfl)
      have ai : atI (M.map V3.d) (i : Int) = some pk.d := atI_nat (by rw [List.getElem?_map, hpk]; rfl)
      rw [Int.zero_add]
      walk_at "sk"
      refine o_ix (.lst (by simp)) aj ?_
      walk_at "sk"
      refine o_ix (.lst (by simp)) ai ?_
      walk_at "sk"
      refine ⟨rfl, callK0 ⟨pj, pk, rfl, (hP.bd pj hpjm).sm (by decide), rfl, ?_⟩⟩
      walk_at "sk"
      refine ⟨rfl, callK0 ⟨pj.cross pk, rfl, ((hP.bd pj hpjm).cross (hP.bd pk hpkm)).mono (by decide), rfl, ?_⟩⟩
      rw [red_low hz]
      walk_at "sk"
      refine ev_lcF (ei_list ?_) (own_name (by decide))
      refine ev_lst ?_
      walk_at "sk"
      refine ⟨rfl, callK0 ⟨(pj.cross pk).low, rfl, rfl, ?_⟩⟩
      walk_at "sk"
      intro s
      refine ⟨s, _, rfl, List.mem_cons_self .., V3, [(pj.cross pk).low, (pj.cross pk).low.neg], fun p => .dat p.d, fun p => if !(decide (p ∈ G)) then some p.d else none, rfl, by show 2 < 100000; decide, fun q hq => ?_, fun p hp => ?_, fun l => ?_⟩
      · rw [List.mem_singleton] at hq
        rw [hq]
        exact List.mem_cons_self ..
      · refine tg_name ?_
        walk_at "sk"
        refine o_notInD (ds := G.map V3.d) (.dat _) (.lst (List.mem_cons_of_mem _ (List.mem_cons_self ..))) rfl shaped_ds ?_
        rw [any_d]
        refine ⟨_, rfl, fun h => ?_, fun h => ⟨by show (if (!(decide (p ∈ G))) = true then _ else _) = _; rw [h]; rfl, sub_refl _⟩⟩
        walk_at "sk"
        exact ⟨by show (if (!(decide (p ∈ G))) = true then _ else _) = _; rw [h]; rfl, sub_refl _⟩
      · rw [fm_vs]
        refine o_cat (xs := G.map V3.d) (List.mem_cons_of_mem _ (List.mem_cons_of_mem _ (List.mem_cons_self ..))) (List.mem_cons_self ..) ?_ fun l2 => ?_
        · rw [List.length_map, List.length_map]
          have := List.length_filter_le (fun p => !(decide (p ∈ G))) [(pj.cross pk).low, (pj.cross pk).low.neg]
          simp only [List.length_cons, List.length_nil] at this
          omega
        · walk_at "sk"
          rw [← List.map_append]
          refine ⟨_, sub_keep (sub_cons (sub_cons (sub_cons (sub_refl _)))), l2, _, rfl, ?_, fun e => ?_, _, _, rfl⟩
          · have hnd2 : [(pj.cross pk).low, (pj.cross pk).low.neg].Nodup := by
              rw [List.nodup_cons, List.mem_singleton]
              exact ⟨neg_ne hln, by simp⟩
            refine List.nodup_append.mpr ⟨hG, hnd2.sublist (List.filter_sublist ..), fun a ha b hb e => ?_⟩
            subst e
            have := (List.mem_filter.mp hb).2
            simp [ha] at this
          · rw [List.mem_append, PR.next hpj hpk hjl, hmem, List.mem_filter]
            simp only [List.mem_cons, List.not_mem_nil, or_false]
            constructor
            · rintro (h | ⟨h, _⟩)
              · exact .inl h
              · exact .inr h
            · rintro (h | h)
              · exact .inl h
              · by_cases hin : e ∈ G
                · exact .inl ((hmem e).mp hin)
                · exact .inr ⟨h, by simp [hin]⟩
    · obtain ⟨g, G, rfl, hG, hmem, y3, y4, rfl⟩ := hI
      have e : ((List.range (i : Int).toNat).map fun (j : Nat) => Kn.dat (.int (0 + (j : Int)))).length = i := by rw [List.length_map, List.length_range]; omega
      rw [e] at hmem
      exact ⟨_, sub_refl _, g, G, rfl, hG, fun e => (hmem e).trans PR.row, _, _, _, rfl⟩
  · obtain ⟨g, G, rfl, hG, hmem, y2, y3, y4, rfl⟩ := hI
    have e : ((List.range (M.length : Int).toNat).map fun (j : Nat) => Kn.dat (.int (0 + (j : Int)))).length = M.length := by rw [List.length_map, List.length_range]; omega
    rw [e] at hmem
    have hv : ∀ v, v ∈ G ↔ Cor M v := fun v => (hmem v).trans (PR.all hP)
    walk_at "sk"
    exact ⟨_, sub_refl _, q g G hv (cor_len h5 hG fun e he => (hv e).mp he)⟩
end
end Sk


/-! La7: the law's cells -/
namespace Sk
open PySem PySem.Spec PyProof.Rows L2
local macro_rules | `(tactic| walk_at "sk") => `(tactic| repeat' (first
  | ((with_reducible show Ev _ (tVar _) _ _ _); refine ev_var rfl ?_) | with_reducible refine ev_int ?_ | with_reducible refine ev_bl ?_ | with_reducible refine ev_non ?_ | with_reducible refine ev_str ?_ | with_reducible refine ev_ty ?_ | with_reducible refine ev_ref ?_
  | with_reducible refine ev_op ?_ | with_reducible refine ev_un ?_ | with_reducible refine ev_cb ?_ | with_reducible refine ea_cons ?_ | with_reducible refine ea_nil ?_
  | with_reducible refine ev_if ?_ | with_reducible refine ev_and ?_ | with_reducible refine ev_or ?_ | with_reducible refine ev_not ?_ | with_reducible refine ev_tup ?_ | with_reducible refine ev_call ?_
  | with_reducible refine sx_seq ?_ | with_reducible refine sx_asg ?_ | with_reducible refine tg_name ?_ | with_reducible refine sx_ret ?_ | with_reducible refine sx_next ?_ | with_reducible refine sx_drop ?_ | with_reducible refine sx_if ?_
  | with_reducible refine et_chain ?_ | with_reducible refine et_test ?_ | with_reducible refine et_B ?_ | with_reducible refine et_not ?_ | with_reducible refine et_and ?_ | with_reducible refine et_or ?_
  | with_reducible refine o_add ?_ | with_reducible refine o_sub ?_ | with_reducible refine o_lt ?_ | with_reducible refine o_le ?_ | with_reducible refine o_gt ?_ | with_reducible refine o_ge ?_
  | with_reducible refine o_neg ?_ | with_reducible refine o_subB ?_ | with_reducible refine o_mul ?_ ?_
  | ((with_reducible show Op2 _ (rIx _) _ _ _ _); refine o_ix (.tup _) rfl ?_)
  | ((with_reducible show Op2 _ (rEqD _) _ _ _ _); (first | refine o_eqD (.dat _) (.dat _) rfl rfl ?_ | refine o_eqD (.dat _) (.dat _) (by decide +kernel) (by decide +kernel) ?_))
  | ((with_reducible show Op2 _ (rNeD _) _ _ _ _); (first | refine o_neD (.dat _) (.dat _) rfl rfl ?_ | refine o_neD (.dat _) (.dat _) (by decide +kernel) (by decide +kernel) ?_))
  | ((with_reducible show Op2 _ (rIn _ false) _ _ _ _); refine o_in (.tup _) (by rfl) (by rfl) ?_) | ((with_reducible show Op2 _ (rIn _ true) _ _ _ _); refine o_notIn (.tup _) (by rfl) (by rfl) ?_)
  | ((with_reducible show OpC _ (rIsi _) _ _ _); (first | refine oc_isi (b := true) (by rfl) ?_ | refine oc_isi (b := false) (by rfl) ?_))
  | ((with_reducible show OpC _ _ _ _ _); refine oc_len (.tup _) ?_)
  | ((with_reducible show Tg _ (gTup _ _ _) _ _ _ _); (first | with_reducible refine tg_pair ?_ | refine tg_tup rfl ?_)) | ((with_reducible show Tgs _ (gCons _ _) _ _ _ _); refine tgs_cons ?_) | ((with_reducible show Tgs _ gNil _ _ _ _); refine tgs_nil ?_)
  | ((with_reducible show ∃ ds, alld _ ds ∧ _); (first
    | refine ⟨[_, _, _], ⟨rfl, rfl, rfl, trivial⟩, Nat.le_of_ble_eq_true rfl, ?_⟩ | refine ⟨[_, _], ⟨rfl, rfl, trivial⟩, Nat.le_of_ble_eq_true rfl, ?_⟩ | refine ⟨[_], ⟨rfl, trivial⟩, Nat.le_of_ble_eq_true rfl, ?_⟩ | refine ⟨[], trivial, Nat.le_of_ble_eq_true rfl, ?_⟩
    | refine ⟨[_, _, _, _], ⟨rfl, rfl, rfl, rfl, trivial⟩, Nat.le_of_ble_eq_true rfl, ?_⟩ | refine ⟨[_, _, _, _, _], ⟨rfl, rfl, rfl, rfl, rfl, trivial⟩, Nat.le_of_ble_eq_true rfl, ?_⟩ | refine ⟨[_, _, _, _, _, _], ⟨rfl, rfl, rfl, rfl, rfl, rfl, trivial⟩, Nat.le_of_ble_eq_true rfl, ?_⟩
    | refine ⟨[_, _, _, _, _, _, _], ⟨rfl, rfl, rfl, rfl, rfl, rfl, rfl, trivial⟩, Nat.le_of_ble_eq_true rfl, ?_⟩))
  | ((with_reducible show (_ = true → _) ∧ (_ = false → _)); (first | refine pickT rfl ?_ | refine pickF rfl ?_))
  | ((with_reducible show ∃ _, Kn.dat (PyData.bool _) = Kn.dat (PyData.bool _) ∧ _); refine ⟨_, rfl, ?_⟩)
  | ((with_reducible show ∃ _, Kn.dat _ = Kn.dat _ ∧ _); refine ⟨_, rfl, ?_⟩) | fail))

section
variable {P : Program} {w : World} {K : PySem.W.Frag} {mg : Str → Option Value} {base : Heap} {f : Addr} {fd : FuncData}

def addAx (M : List V3) (a : V3) : List V3 := if M.length < 2 ∧ a ∉ M then M ++ [a] else M
def eX : V3 := ⟨1, 0, 0⟩
def eY : V3 := ⟨0, 1, 0⟩
def moreP (Ps : List V3) : List V3 := addAx (addAx Ps eX) eY
theorem eX_norm : eX.Norm := ⟨show V3.gN ⟨1, 0, 0⟩ = 1 by decide, .inl (by decide)⟩
theorem eY_norm : eY.Norm := ⟨show V3.gN ⟨0, 1, 0⟩ = 1 by decide, .inr ⟨rfl, .inl (by decide)⟩⟩
theorem addAx_pl {M : List V3} {a : V3} (h : Pl M) (ha : a.Norm) (hb : a.Bd 12) : Pl (addAx M a) := by
  unfold addAx
  split
  · rename_i hc
    refine ⟨List.nodup_append.mpr ⟨h.nd, by simp, fun x hx y hy e => ?_⟩, fun p hp => ?_, fun p hp => ?_, by rw [List.length_append, List.length_singleton]; omega⟩
    · rw [List.mem_singleton] at hy
      subst hy e
      exact hc.2 hx
    · rcases List.mem_append.mp hp with hp | hp
      · exact h.nm p hp
      · rw [List.mem_singleton.mp hp]; exact ha
    · rcases List.mem_append.mp hp with hp | hp
      · exact h.bd p hp
      · rw [List.mem_singleton.mp hp]; exact hb
  · exact h
theorem moreP_pl {Ps : List V3} (h : Pl Ps) : Pl (moreP Ps) := addAx_pl (addAx_pl h eX_norm ⟨by decide, by decide, by decide⟩) eY_norm ⟨by decide, by decide, by decide⟩
theorem moreP_mo (Ps : List V3) : Mo Ps (moreP Ps) := by
  unfold moreP addAx
  match Ps with
  | [] =>
    have h1 : ([] : List V3).length < 2 ∧ eX ∉ ([] : List V3) := by simp
    rw [if_pos h1]
    have h2 : ([] ++ [eX]).length < 2 ∧ eY ∉ ([] ++ [eX]) := by decide
    rw [if_pos h2]
    exact .non (by decide)
  | [p] =>
    by_cases h : p = eX
    · have h1 : ¬ ([p].length < 2 ∧ eX ∉ [p]) := fun z => z.2 (by rw [h]; simp)
      rw [if_neg h1]
      have h2 : [p].length < 2 ∧ eY ∉ [p] := ⟨by simp, by rw [h]; decide⟩
      rw [if_pos h2]
      exact .one (by rw [h]; decide)
    · have h1 : [p].length < 2 ∧ eX ∉ [p] := ⟨by simp, by simp; exact fun e => h e.symm⟩
      rw [if_pos h1]
      have h2 : ¬ (([p] ++ [eX]).length < 2 ∧ eY ∉ ([p] ++ [eX])) := fun z => by simp at z
      rw [if_neg h2]
      exact .one h
  | p :: q :: r =>
    have h1 : ¬ ((p :: q :: r).length < 2 ∧ eX ∉ (p :: q :: r)) := fun z => absurd z.1 (by simp)
    rw [if_neg h1]
    have h2 : ¬ ((p :: q :: r).length < 2 ∧ eY ∉ (p :: q :: r)) := fun z => absurd z.1 (by simp)
    rw [if_neg h2]
    exact .two (by simp)
theorem ei_less {B : Bs} {wi : TI} {ρ : Sl} {O : Cs} {Λ : List Kn → Cs → Cs → Prop} (h : EvI B wi ρ O fun items need O1 => ∃ O2, Sub O2 O1 ∧ Λ items need O2) : EvI B wi ρ O Λ := fun σ H τ F R Q hQ =>
  h σ H τ F R Q fun J H' items need O1 τ0 ⟨O2, sb, q⟩ R' W => hQ J H' items need O2 τ0 q (R'.less sb) W
/-- the axes laid so far -/
def axM (Ps : List V3) (i : Nat) : List V3 := ([eX, eY].take i).foldl addAx Ps
theorem axM_pl {Ps : List V3} (h : Pl Ps) {i : Nat} (hi : i ≤ 2) : Pl (axM Ps i) := by
  have bx : eX.Bd 12 := ⟨by decide, by decide, by decide⟩
  have by' : eY.Bd 12 := ⟨by decide, by decide, by decide⟩
  match i, hi with
  | 0, _ => exact h
  | 1, _ => exact addAx_pl h eX_norm bx
  | 2, _ => exact addAx_pl (addAx_pl h eX_norm bx) eY_norm by'
def arcD (L : List (V3 × V3)) : List PyData := L.map fun wn => .tuple [wn.1.d, wn.2.d]
theorem cut_to (k : List Int) (n : Nat) : cutD (k.map PyData.int) none (some (n : Int)) = (k.take n).map PyData.int := by
  have e : HT.sIx (k.map PyData.int).length 0 none = 0 := by
    unfold HT.sIx
    simp
  have e2 : HT.sIx (k.map PyData.int).length (k.map PyData.int).length (some (n : Int)) = min n k.length := by
    rw [List.length_map]
    unfold HT.sIx
    simp only [Option.elim]
    first
    | (rw [if_neg (by omega)]; omega)
    | (simp; rw [if_neg (by omega)]; omega)
    | (split <;> omega)
  unfold cutD
  rw [e, e2, List.drop_zero, Nat.sub_zero, ← List.map_take]
  congr 1
  rw [List.take_eq_take_iff]
  omega
def w_lcells : WT := fun ks O Φ => ∃ (Ps : List V3) (x : Addr), ks = [.ptr x] ∧ Pl Ps ∧ O = [(x, .lst (Ps.map V3.d))] ∧ ∀ t kvs, CellsOk Ps kvs → Φ (.ptr t) [(t, .dic kvs)]
theorem cl_law_cells (T : Bt mg) (F : Df K mg "_law_cells" s_law_cells f fd) (C_law_ends : Cl P w K mg base "_law_ends" 3 1 w_lends) (C_law_signs : Cl P w K mg base "_law_signs" 2 2 w_lsigns) (C_law_reduced : Cl P w K mg base "_law_reduced" 2 1 w_lreduced) (C_law_cross : Cl P w K mg base "_law_cross" 1 2 w_lcross) (C_law_dot : Cl P w K mg base "_law_dot" 1 2 w_ldot) (C_law_minus : Cl P w K mg base "_law_minus" 1 1 w_lminus) (C_law_off : Cl P w K mg base "_law_off" 3 3 w_loff) : Cl P w K mg base "_law_cells" 4 1 w_lcells := by
  have nd := sc_law_cells.nd
  refine cl_of 3 1 F sc_law_cells rfl (fun _ _ _ _ _ _ us hl => match us, hl with | [_], _ => rfl) fun cdv A outer s H E hr => ⟨_, (pss_cons (ps_asg (pe_tup (pa_cons (pe_callTy (kListOf (K := K)) (by rfl) T.list_ (by decide +kernel) (pa_cons (pv 0) pa_nil)) (pa_cons pe_dnewT (pa_cons (pe_lst pa_nil) (pa_cons pe_dnewT pa_nil))))) (kgTup (K := K) (n := 4) rfl (pgs_cons (pg_name (i := 1) nd rfl (Or.inl rfl)) (pgs_cons (pg_name (i := 2) nd rfl (Or.inl rfl)) (pgs_cons (pg_name (i := 3) nd rfl (Or.inl rfl)) (pgs_cons (pg_name (i := 4) nd rfl (Or.inl rfl)) pgs_nil))))))
      (pss_cons (ps_for PassesOwn.never rfl (kList (K := K) (pe_lst (pa_cons (pe_tup (pa_cons pe_int (pa_cons pe_int (pa_cons pe_int pa_nil)))) (pa_cons (pe_tup (pa_cons pe_int (pa_cons pe_int (pa_cons pe_int pa_nil)))) pa_nil)))) (pg_name (i := 5) nd rfl (Or.inl rfl)) (pss_one (ps_if (PW.pt (pw_and (pt_cmpR op_lt (pe_callB (kLen (K := K)) (by rfl) T.len_ (by decide +kernel) (pa_cons (pv 1) pa_nil)) pe_int (nomark _)) (pw_and1 (pt_cmpR (kNotInD (K := K) (hu65 hr)) (pv 5) (pv 1) (by with_unfolding_all rfl))))) (pss_one (ps_expr (kBM (K := K) PySem.F.plainAttrs_list PySem.F.slot_list_append PySem.F.type_list_append mt_append (pv 1) (pa_cons (pv 5) pa_nil)))) pss_nil)))
      (pss_cons (ps_for PassesOwn.never rfl (kList (K := K) (pe_cl C_law_ends (hr.mono (by decide)) (by rfl) (pa_cons (pv 1) pa_nil))) (pg_name (i := 6) nd rfl (Or.inl rfl)) (pss_cons (ps_dput (hu_of hr) (pv 2) (pe_cl C_law_signs (hr.mono (by decide)) (by rfl) (pa_cons (pv 1) (pa_cons (pv 6) pa_nil))) (pv 6) rfl)
      (pss_one (ps_for PassesOwn.never rfl (kList (K := K) (pv 1)) (pg_name (i := 8) nd rfl (Or.inl rfl)) (pss_cons (ps_set (i := 11) nd rfl (Or.inl rfl) (pe_cl C_law_reduced (hr.mono (by decide)) (by rfl) (pa_cons (pe_cl C_law_cross (hr.mono (by decide)) (by rfl) (pa_cons (pv 8) (pa_cons (pv 6) pa_nil))) pa_nil)))
      (pss_one (ps_for PassesOwn.never rfl (kList (K := K) (pe_ifExp (pt_cmpR (kEqD (K := K) hr.units) (pe_cl C_law_dot (hr.mono (by decide)) (by rfl) (pa_cons (pv 8) (pa_cons (pv 6) pa_nil))) pe_int (nomark _)) (pe_lst (pa_cons (pv 11) (pa_cons (pe_cl C_law_minus (hr.mono (by decide)) (by rfl) (pa_cons (pv 11) pa_nil)) pa_nil))) (pe_lst pa_nil))) (pg_name (i := 10) nd rfl (Or.inl rfl)) (pss_cons (ps_set (i := 7) nd rfl (Or.inl rfl) (pe_cl C_law_off (hr.mono (by decide)) (by rfl) (pa_cons (pv 6) (pa_cons (pv 10) (pa_cons (pv 1) pa_nil)))))
      (pss_cons (ps_set (i := 9) nd rfl (Or.inl rfl) (pe_cl C_law_signs (hr.mono (by decide)) (by rfl) (pa_cons (pv 1) (pa_cons (pv 7) pa_nil))))
      (pss_one (ps_if (pt_cmp (pc_dnotin (hu_of hr) (pv 9) (pv 2))) (pss_cons (ps_dput (hu_of hr) (pv 2) (pv 9) (pv 7) rfl)
      (pss_one (ps_expr (kBM (K := K) PySem.F.plainAttrs_list PySem.F.slot_list_append PySem.F.type_list_append mt_append (pv 3) (pa_cons (pe_tup (pa_cons (pv 7) (pa_cons (pv 8) pa_nil))) pa_nil))))) pss_nil)))))))))))
      (pss_cons (ps_for PassesOwn.never rfl (kList (K := K) (pv 3)) (kgTup (K := K) (n := 2) rfl (pgs_cons (pg_name (i := 7) nd rfl (Or.inl rfl)) (pgs_cons (pg_name (i := 8) nd rfl (Or.inl rfl)) pgs_nil))) (pss_one (ps_for PassesOwn.never rfl (kList (K := K) (pe_lst (pa_cons (pv 8) (pa_cons (pe_cl C_law_minus (hr.mono (by decide)) (by rfl) (pa_cons (pv 8) pa_nil)) pa_nil)))) (pg_name (i := 10) nd rfl (Or.inl rfl)) (pss_cons (ps_set (i := 6) nd rfl (Or.inl rfl) (pe_cl C_law_off (hr.mono (by decide)) (by rfl) (pa_cons (pv 7) (pa_cons (pv 10) (pa_cons (pv 1) pa_nil)))))
      (pss_one (ps_expr (kBM (K := K) PySem.F.plainAttrs_dict PySem.F.slot_dict_setdefault PySem.F.type_dict_setdefault (Nw.mt_setdefT (hu_of hr)) (pv 2) (pa_cons (pe_cl C_law_signs (hr.mono (by decide)) (by rfl) (pa_cons (pv 1) (pa_cons (pv 6) pa_nil))) (pa_cons (pv 6) pa_nil)))))))))
      (pss_cons (ps_for PassesOwn.never rfl (kList (K := K) (pe_callTy (call_list_dT rfl) (by rfl) T.list_ (by decide +kernel) (pa_cons (pv 2) pa_nil))) (pg_name (i := 9) nd rfl (Or.inl rfl)) (pss_one (ps_expr (kBM (K := K) PySem.F.plainAttrs_dict PySem.F.slot_dict_setdefault PySem.F.type_dict_setdefault (Nw.mt_setdefT (hu_of hr)) (pv 4) (pa_cons (pe_slice (kSlA (K := K)) (pv 9) po_none (po_some (pe_callB (kLen (K := K)) (by rfl) T.len_ (by decide +kernel) (pa_cons (pv 0) pa_nil)))) (pa_cons (pe_dget (hu_of hr) (pv 2) (pv 9) (fun _ _ => rfl)) pa_nil))))))
      (pss_one (ps_ret (pv 4)))))))), ?_⟩
  intro B ks O Φ hl ⟨Ps, x, e1, hP, e2, q⟩
  subst e1 e2
  have h5 := hP.le
  refine sx_seq ?_
  refine sx_par ?_
  walk_at "sk"
  refine oc_list (.lst (List.mem_cons_self ..)) fun mo => ?_
  walk_at "sk"
  refine ev_dnew fun fn => ?_
  walk_at "sk"
  refine ev_lst ?_
  walk_at "sk"
  intro ar
  walk_at "sk"
  refine ev_dnew fun tb => ?_
  walk_at "sk"
  refine ⟨rfl, by show 4 ≤ 100000; decide, ?_⟩
  walk_at "sk"
  refine sx_for (ei_list ?_)
  refine ev_lst ?_
  walk_at "sk"
  intro ax
  refine ⟨ax, _, rfl, List.mem_cons_self .., fun i ρ' O' => i ≤ 2 ∧ O' = [(ax, .lst ([eX, eY].map V3.d)), (tb, .dic []), (ar, .lst []), (fn, .dic []), (mo, .lst ((axM Ps i).map V3.d)), (x, .lst (Ps.map V3.d))] ∧ ∃ y, ρ' = [some (.ptr x), some (.ptr mo), some (.ptr fn), some (.ptr ar), some (.ptr tb), y, none, none, none, none, none, none],
    ⟨by decide, rfl, _, rfl⟩, fun i ρ' O' _ hI q hq => ?_, fun i k ρ' O' hk hI => ?_, fun ρ' O' hI => ?_⟩
  · obtain ⟨_, rfl, _⟩ := hI
    rw [List.mem_singleton] at hq
    rw [hq]
    exact List.mem_cons_self ..
  · obtain ⟨hi, rfl, y, rfl⟩ := hI
    have hMp := axM_pl hP hi
    have hax : ∃ a, [eX, eY][i]? = some a ∧ k = .dat a.d := by
      match i, hk with
      | 0, hk => cases hk; exact ⟨eX, rfl, rfl⟩
      | 1, hk => cases hk; exact ⟨eY, rfl, rfl⟩
    obtain ⟨a, hai, rfl⟩ := hax
    have hi1 : i + 1 ≤ 2 := (List.getElem?_eq_some_iff.mp hai).1
    have et : axM Ps (i + 1) = addAx (axM Ps i) a := by
      unfold axM
      rw [List.take_add_one, hai, List.foldl_append]
      rfl
    have hlm : ((axM Ps i).map V3.d).length = (axM Ps i).length := List.length_map ..
    refine tg_name ?_
    walk_at "sk"
    refine oc_len (ds := (axM Ps i).map V3.d) (.lst (by simp)) ?_
    walk_at "sk"
    rw [hlm]
    refine ⟨fun h => ?_, fun h => ?_⟩
    · have h := of_decide_eq_true h
      walk_at "sk"
      refine o_notInD (ds := (axM Ps i).map V3.d) (.dat _) (.lst (by simp)) rfl shaped_ds ?_
      rw [any_d]
      refine ⟨_, rfl, fun h2 => ?_, fun h2 => ?_⟩
      · have h2 : a ∉ axM Ps i := by simpa using h2
        have e : addAx (axM Ps i) a = axM Ps i ++ [a] := if_pos ⟨by omega, h2⟩
        walk_at "sk"
        refine ev_bm ?_
        walk_at "sk"
        refine ⟨.lst (ds := (axM Ps i).map V3.d) (by simp), ?_⟩
        walk_at "sk"
        refine om_append (j := 4) rfl (by have := hMp.le; omega) ?_
        refine ⟨_, sub_refl _, hi1, ?_, _, rfl⟩
        rw [et, e, List.map_append]
        rfl
      · have h2 : a ∈ axM Ps i := by simpa using h2
        have e : addAx (axM Ps i) a = axM Ps i := if_neg fun z => z.2 h2
        walk_at "sk"
        refine ⟨_, sub_refl _, hi1, ?_, _, rfl⟩
        rw [et, e]
    · have h := of_decide_eq_false h
      have e : addAx (axM Ps i) a = axM Ps i := if_neg fun z => by omega
      refine pickF rfl ?_
      walk_at "sk"
      refine ⟨_, sub_refl _, hi1, ?_, _, rfl⟩
      rw [et, e]
  · obtain ⟨_, rfl, y, rfl⟩ := hI
    have eM : axM Ps (([eX.d, eY.d].map Kn.dat).length) = moreP Ps := rfl
    rw [show (List.map Kn.dat [PyData.tuple [.int 1, .int 0, .int 0], .tuple [.int 0, .int 1, .int 0]]).length = ([eX.d, eY.d].map Kn.dat).length from rfl, eM]
    obtain ⟨M, hM⟩ : ∃ M, moreP Ps = M := ⟨_, rfl⟩
    rw [hM]
    have hMp : Pl M := hM ▸ moreP_pl hP
    have hMo : Mo Ps M := hM ▸ moreP_mo Ps
    have h5M := hMp.le
    have hMne : M ≠ [] := fun e => by have := hMo.two'; rw [e] at this; simp at this
    have hsm : ∀ n ∈ M, n.Sm := fun n hn => (hMp.bd n hn).sm (by decide)
    refine sx_seq ?_
    refine sx_for (ei_less (ei_list ?_))
    walk_at "sk"
    refine ⟨rfl, [(mo, .lst (M.map V3.d))], [(ax, .lst ([eX, eY].map V3.d)), (tb, .dic []), (ar, .lst []), (fn, .dic []), (x, .lst (Ps.map V3.d))], List.perm_middle (l₁ := [_, _, _, _]) (l₂ := [_]), M, mo, rfl, hMp, rfl, fun p vs hvs hv50 => ⟨p, _, rfl, List.mem_cons_self .., ?_⟩⟩
    refine ⟨[(mo, .lst (M.map V3.d)), (p, .lst (vs.map V3.d)), (ax, .lst ([eX, eY].map V3.d)), (tb, .dic []), (ar, .lst []), (fn, .dic []), (x, .lst (Ps.map V3.d))], ⟨[], .swap ..⟩, ?_⟩
    refine ⟨fun i ρ' O' => ∃ kvs L da, O' = [(mo, .lst (M.map V3.d)), (p, .lst (vs.map V3.d)), (ax, .lst ([eX, eY].map V3.d)), (tb, .dic []), (ar, .lst (arcD L)), (fn, .dic kvs), (x, .lst (Ps.map V3.d))] ∧ LFound M (vs.take i) da L kvs ∧
        (∀ v ∈ vs.take i, ∀ n ∈ M, n.dot v = 0 → ∀ s, (s = n.cross v ∨ s = (n.cross v).neg) → ∃ na ∈ da, na.2 = comb (sg M v) (sg M s)) ∧ L.length ≤ 10 * i ∧ i ≤ vs.length ∧ ∃ y5 y6 y7 y8 y9 y10 y11, ρ' = [some (.ptr x), some (.ptr mo), some (.ptr fn), some (.ptr ar), some (.ptr tb), y5, y6, y7, y8, y9, y10, y11],
      ⟨[], [], [], rfl, .nil, (fun _ h => nomatch h), by decide, Nat.zero_le _, _, _, _, _, _, _, _, rfl⟩, fun i ρ' O' _ hI q hq => ?_, fun i k ρ' O' hk hI => ?_, fun ρ' O' hI => ?_⟩
    · obtain ⟨kvs, L, da, rfl, _⟩ := hI
      rw [List.mem_singleton] at hq
      rw [hq]
      exact List.mem_cons_of_mem _ (List.mem_cons_self ..)
    · obtain ⟨kvs, L, da, rfl, hF, hA, hLl, hil, y5, y6, y7, y8, y9, y10, y11, rfl⟩ := hI
      rw [List.getElem?_map, List.getElem?_map] at hk
      cases hv : vs[i]? with
      | none => rw [hv] at hk; cases hk
      | some v =>
        rw [hv] at hk
        cases hk
        have hc := (hvs v).mp (List.mem_of_getElem? hv)
        have hvn := (hc.prim hMp).nz
        have hvb := hc.bd hMp
        have hi1 := (List.getElem?_eq_some_iff.mp hv).1
        have et : vs.take (i + 1) = vs.take i ++ [v] := by rw [List.take_add_one, hv]; rfl
        refine tg_name ?_
        refine sx_seq ?_
        refine sx_dput ?_
        walk_at "sk"
        refine ⟨rfl, [(mo, .lst (M.map V3.d))], _, .refl _, M, mo, v, rfl, hsm, by omega, rfl, ?_⟩
        refine ⟨fn, kvs, sg M v, 5, rfl, rfl, rfl, by have := hF.rc.few h5M; omega, ?_⟩
        have hF2 := hF.corner hMp hc
        rw [← et] at hF2
        refine sx_for (ei_list ?_)
        walk_at "sk"
        refine ⟨mo, _, rfl, List.mem_cons_self .., fun j ρ' O' => ∃ kvs L da, O' = [(mo, .lst (M.map V3.d)), (p, .lst (vs.map V3.d)), (ax, .lst ([eX, eY].map V3.d)), (tb, .dic []), (ar, .lst (arcD L)), (fn, .dic kvs), (x, .lst (Ps.map V3.d))] ∧ LFound M (vs.take (i + 1)) da L kvs ∧
            (∀ v ∈ vs.take i, ∀ n ∈ M, n.dot v = 0 → ∀ s, (s = n.cross v ∨ s = (n.cross v).neg) → ∃ na ∈ da, na.2 = comb (sg M v) (sg M s)) ∧ (∀ n ∈ M.take j, n.dot v = 0 → ∀ s, (s = n.cross v ∨ s = (n.cross v).neg) → ∃ na ∈ da, na.2 = comb (sg M v) (sg M s)) ∧ L.length ≤ 10 * i + 2 * j ∧ j ≤ M.length ∧ ∃ y7 y8 y9 y10 y11, ρ' = [some (.ptr x), some (.ptr mo), some (.ptr fn), some (.ptr ar), some (.ptr tb), y5, some (.dat v.d), y7, y8, y9, y10, y11],
          ⟨_, L, da, rfl, hF2, hA, (fun _ h => nomatch h), by omega, Nat.zero_le _, _, _, _, _, _, rfl⟩, fun j ρ' O' _ hI q hq => ?_, fun j k ρ' O' hk hI => ?_, fun ρ' O' hI => ?_⟩
        · obtain ⟨kvs, L, da, rfl, _⟩ := hI
          rw [List.mem_singleton] at hq
          rw [hq]
          exact List.mem_cons_self ..
        · obtain ⟨kvs, L, da, rfl, hF, hA, hB, hLl, hjl, y7, y8, y9, y10, y11, rfl⟩ := hI
          rw [List.getElem?_map, List.getElem?_map] at hk
          cases hn : M[j]? with
          | none => rw [hn] at hk; cases hk
          | some n =>
            rw [hn] at hk
            cases hk
            have hnm := List.mem_of_getElem? hn
            have hj1 := (List.getElem?_eq_some_iff.mp hn).1
            have hnb := hMp.bd n hnm
            have etn : M.take (j + 1) = M.take j ++ [n] := by rw [List.take_add_one, hn]; rfl
            have hcb : (n.cross v).Bd 38 := hnb.cross hvb
            -- the arcs from v on n
            have inner : ∀ (E : AE) (l : Addr) (ts : List V3), ts.length ≤ 2 → (ts = [] ∨ (n.dot v = 0 ∧ ts = [(n.cross v).low, (n.cross v).low.neg])) →
                (∀ kvs L da y7 y9 y10, LFound M (vs.take (i + 1)) da L kvs → (∀ v ∈ vs.take i, ∀ n ∈ M, n.dot v = 0 → ∀ s, (s = n.cross v ∨ s = (n.cross v).neg) → ∃ na ∈ da, na.2 = comb (sg M v) (sg M s)) → (∀ n ∈ M.take j, n.dot v = 0 → ∀ s, (s = n.cross v ∨ s = (n.cross v).neg) → ∃ na ∈ da, na.2 = comb (sg M v) (sg M s)) → (∀ s ∈ ts, ∃ na ∈ da, na.2 = comb (sg M v) (sg M s)) → L.length ≤ 10 * i + 2 * j + 2 →
                  E.nx [some (.ptr x), some (.ptr mo), some (.ptr fn), some (.ptr ar), some (.ptr tb), y5, some (.dat v.d), y7, some (.dat n.d), y9, y10, some (.dat (n.cross v).red.d)] [(mo, .lst (M.map V3.d)), (l, .lst (ts.map V3.d)), (p, .lst (vs.map V3.d)), (ax, .lst ([eX, eY].map V3.d)), (tb, .dic []), (ar, .lst (arcD L)), (fn, .dic kvs), (x, .lst (Ps.map V3.d))]) →
                ∃ I : Nat → Sl → Cs → Prop, I 0 [some (.ptr x), some (.ptr mo), some (.ptr fn), some (.ptr ar), some (.ptr tb), y5, some (.dat v.d), y7, some (.dat n.d), y9, y10, some (.dat (n.cross v).red.d)] [(mo, .lst (M.map V3.d)), (l, .lst (ts.map V3.d)), (p, .lst (vs.map V3.d)), (ax, .lst ([eX, eY].map V3.d)), (tb, .dic []), (ar, .lst (arcD L)), (fn, .dic kvs), (x, .lst (Ps.map V3.d))] ∧
                  (∀ i ρ' O', i ≤ ((ts.map V3.d).map Kn.dat).length → I i ρ' O' → ∀ q ∈ [(l, Cell.lst (ts.map V3.d))], q ∈ O') ∧
                  (∀ i k ρ' O', ((ts.map V3.d).map Kn.dat)[i]? = some k → I i ρ' O' → Tg B (gName 10) k ρ' O' fun ρ2 O2 => Sx B (tSeq (tAsg (tCall (spW 3 w_loff) [] E0 (tCons (tVar 6) (tCons (tVar 10) (tCons (tVar 1) tNil)))) (gName 7)) (tSeq (tAsg (tCall (spW 2 w_lsigns) [] E0 (tCons (tVar 1) (tCons (tVar 7) tNil))) (gName 9)) (tIfS (tB (tDNotIn (tVar 9) (tVar 2))) (tSeq (sDPut (tVar 2) (tVar 9) (tVar 7)) (tDrop (tBM K "list" rAppend (tVar 3) (tCons (tTup (tCons (tVar 7) (tCons (tVar 8) tNil))) tNil)))) tNext))) ρ2 O2 ⟨fun ρ3 O3 => ∃ O4, Sub O4 O3 ∧ I (i + 1) ρ3 O4, E.rt, E.nx, fun ρ3 O3 => ∃ O4, Sub O4 O3 ∧ I (i + 1) ρ3 O4⟩) ∧
                  ∀ ρ' O', I ((ts.map V3.d).map Kn.dat).length ρ' O' → E.nx ρ' O' := fun E l ts hts htc fin => by
              refine ⟨fun m ρ' O' => ∃ kvs L da, O' = [(mo, .lst (M.map V3.d)), (l, .lst (ts.map V3.d)), (p, .lst (vs.map V3.d)), (ax, .lst ([eX, eY].map V3.d)), (tb, .dic []), (ar, .lst (arcD L)), (fn, .dic kvs), (x, .lst (Ps.map V3.d))] ∧ LFound M (vs.take (i + 1)) da L kvs ∧ (∀ v ∈ vs.take i, ∀ n ∈ M, n.dot v = 0 → ∀ s, (s = n.cross v ∨ s = (n.cross v).neg) → ∃ na ∈ da, na.2 = comb (sg M v) (sg M s)) ∧ (∀ n ∈ M.take j, n.dot v = 0 → ∀ s, (s = n.cross v ∨ s = (n.cross v).neg) → ∃ na ∈ da, na.2 = comb (sg M v) (sg M s)) ∧ (∀ s ∈ ts.take m, ∃ na ∈ da, na.2 = comb (sg M v) (sg M s)) ∧ L.length ≤ 10 * i + 2 * j + m ∧ m ≤ ts.length ∧
                  ∃ y7 y9 y10, ρ' = [some (.ptr x), some (.ptr mo), some (.ptr fn), some (.ptr ar), some (.ptr tb), y5, some (.dat v.d), y7, some (.dat n.d), y9, y10, some (.dat (n.cross v).red.d)],
                ⟨kvs, L, da, rfl, hF, hA, hB, (fun _ h => nomatch h), by omega, Nat.zero_le _, _, _, _, rfl⟩, fun m ρ' O' _ hI q hq => ?_, fun m k ρ' O' hk hI => ?_, fun ρ' O' hI => ?_⟩
              · obtain ⟨kvs, L, da, rfl, _⟩ := hI
                rw [List.mem_singleton] at hq
                rw [hq]
                exact List.mem_cons_of_mem _ (List.mem_cons_self ..)
              · obtain ⟨kvs, L, da, rfl, hF, hA, hB, hC, hLl, hm, y7, y9, y10, rfl⟩ := hI
                rw [List.getElem?_map, List.getElem?_map] at hk
                cases hs : ts[m]? with
                | none => rw [hs] at hk; cases hk
                | some s =>
                  rw [hs] at hk
                  cases hk
                  have hsts := List.mem_of_getElem? hs
                  have hm1 := (List.getElem?_eq_some_iff.mp hs).1
                  have ets : ts.take (m + 1) = ts.take m ++ [s] := by rw [List.take_add_one, hs]; rfl
                  rcases htc with rfl | ⟨h0, etc⟩
                  · exact nomatch hsts
                  · have hcn := V3.cross_nz' (hMp.nm n hnm).pr.nz hvn h0
                    have hlow0 : v.dot (n.cross v).low = 0 := (zero_low hcn).mpr (V3.dot_cross_self' n v)
                    have hsf : ∃ s0, (s0 = n.cross v ∨ s0 = (n.cross v).neg) ∧ sg M s = sg M s0 ∧ v.dot s = 0 ∧ s.Bd 38 := by
                      rw [etc] at hsts
                      simp only [List.mem_cons, List.not_mem_nil, or_false] at hsts
                      rcases hsts with rfl | rfl
                      · exact ⟨_, .inl rfl, sg_low hcn, hlow0, hcb.low⟩
                      · refine ⟨_, .inr rfl, ?_, by rw [V3.dot_neg, hlow0]; rfl, hcb.low.neg⟩
                        rw [← V3.neg_low hcn, sg_low hcn.neg]
                    obtain ⟨s0, hs0, esg, hvs0, hsb⟩ := hsf
                    refine tg_name ?_
                    walk_at "sk"
                    refine ⟨rfl, [(mo, .lst (M.map V3.d))], _, .refl _, M, v, s, 25, 38, mo, rfl, hMp, hMne, hvn, hvs0, hvb, hsb, by decide, by decide, rfl, fun r hnr hbr => ?_⟩
                    have esr : sg M r = comb (sg M v) (sg M s) := hnr.sg hvn hvs0
                    have arcr : Arc M n (sg M r) := ⟨hnm, v, s0, hc, h0, hs0, by rw [esr, esg]⟩
                    have ray1 : Ray1 M n r := ⟨hnm, hnr.prim hvn hvs0, arcr.on rfl, fun q hq h => arcr.one hMp rfl hq h, hbr.mono (by decide)⟩
                    have up : ∀ {a : Rw}, (∃ na ∈ da, na.2 = a) → ∃ na ∈ da ++ [(n, sg M r)], na.2 = a := fun ⟨na, h1, h2⟩ => ⟨na, List.mem_append_left _ h1, h2⟩
                    have hC2 : ∀ s ∈ ts.take (m + 1), ∃ na ∈ da ++ [(n, sg M r)], na.2 = comb (sg M v) (sg M s) := fun u hu => by
                      rw [ets] at hu
                      rcases List.mem_append.mp hu with hu | hu
                      · exact up (hC u hu)
                      · rw [List.mem_singleton.mp hu]
                        exact ⟨(n, sg M r), by simp, esr⟩
                    walk_at "sk"
                    refine ⟨rfl, [(mo, .lst (M.map V3.d))], _, .refl _, M, mo, r, rfl, hsm, by omega, rfl, ?_⟩
                    walk_at "sk"
                    refine ev_dnotin ?_
                    walk_at "sk"
                    refine ⟨kvs, sg M r, .dic (by simp), rfl, ?_⟩
                    walk_at "sk"
                    by_cases hin : sg M r ∈ keys kvs
                    · refine pickF (by rw [look_isSome.mpr hin]; rfl) ?_
                      walk_at "sk"
                      exact ⟨_, sub_refl _, kvs, L, da ++ [(n, sg M r)], rfl, hF.old hin, fun a b c d e f g => up (hA a b c d e f g), fun a b c d e => up (hB a b c d e), hC2, by omega, hm1, _, _, _, rfl⟩
                    · refine pickT (by rw [Bool.eq_false_iff.mpr (fun e => hin (look_isSome.mp e))]; rfl) ?_
                      refine sx_seq ?_
                      refine sx_dput ?_
                      walk_at "sk"
                      refine ⟨fn, kvs, sg M r, 6, rfl, rfl, rfl, by have := hF.rc.few h5M; omega, ?_⟩
                      walk_at "sk"
                      refine ev_bm ?_
                      walk_at "sk"
                      refine ⟨.lst (ds := arcD L) (by simp), ?_⟩
                      walk_at "sk"
                      refine om_append (ds := arcD L) (j := 5) rfl (by unfold arcD; rw [List.length_map]; omega) ?_
                      refine ⟨_, sub_refl _, _, L ++ [(r, n)], da ++ [(n, sg M r)], ?_, hF.new ray1 arcr, fun a b c d e f g => up (hA a b c d e f g), fun a b c d e => up (hB a b c d e), hC2, by rw [List.length_append, List.length_singleton]; omega, hm1, _, _, _, rfl⟩
                      unfold arcD
                      rw [List.map_append]
                      rfl
              · obtain ⟨kvs, L, da, rfl, hF, hA, hB, hC, hLl, hm, y7, y9, y10, rfl⟩ := hI
                rw [List.length_map, List.length_map] at hC hLl
                rw [List.take_length] at hC
                exact fin kvs L da y7 y9 y10 hF hA hB hC (by omega)
            have hcm := hcb.mono (show 38 ≤ 150 by decide)
            refine tg_name ?_
            refine sx_seq ?_
            walk_at "sk"
            refine ⟨rfl, callK0 ⟨n, v, rfl, hsm n hnm, rfl, ?_⟩⟩
            walk_at "sk"
            refine ⟨rfl, callK0 ⟨n.cross v, rfl, hcm, rfl, ?_⟩⟩
            walk_at "sk"
            refine sx_for (ei_less (ei_list ?_))
            walk_at "sk"
            refine ⟨rfl, callK0 ⟨n, v, rfl, hsm n hnm, rfl, ?_⟩⟩
            walk_at "sk"
            rw [eqv_int]
            refine ⟨fun h0 => ?_, fun h0 => ?_⟩
            · have h0 := of_decide_eq_true h0
              have hcn := V3.cross_nz' (hMp.nm n hnm).pr.nz hvn h0
              have erd := red_low hcn
              refine ev_lst ?_
              walk_at "sk"
              refine ⟨rfl, callK0 ⟨(n.cross v).red, rfl, rfl, ?_⟩⟩
              walk_at "sk"
              intro l
              refine ⟨l, _, rfl, List.mem_cons_self .., [(mo, .lst (M.map V3.d)), (l, .lst ([(n.cross v).red, (n.cross v).red.neg].map V3.d)), (p, .lst (vs.map V3.d)), (ax, .lst ([eX, eY].map V3.d)), (tb, .dic []), (ar, .lst (arcD L)), (fn, .dic kvs), (x, .lst (Ps.map V3.d))], ⟨[], .swap ..⟩, inner _ l [(n.cross v).red, (n.cross v).red.neg] (by simp) (.inr ⟨h0, by rw [erd]⟩) fun kvs L da y7 y9 y10 hF hA hB hC hLl => ⟨_, sub_keep (sub_cons (sub_refl _)), kvs, L, da, rfl, hF, hA, fun u hu hu0 s hs => ?_, by omega, hj1, _, _, _, _, _, rfl⟩⟩
              rw [etn] at hu
              rcases List.mem_append.mp hu with hu | hu
              · exact hB u hu hu0 s hs
              · rw [List.mem_singleton] at hu
                rw [hu] at hs
                rcases hs with rfl | rfl
                · obtain ⟨na, h1, h2⟩ := hC (n.cross v).red (by simp)
                  exact ⟨na, h1, by rw [h2, erd, sg_low hcn]⟩
                · obtain ⟨na, h1, h2⟩ := hC (n.cross v).red.neg (by simp)
                  exact ⟨na, h1, by rw [h2, erd, ← V3.neg_low hcn, sg_low hcn.neg]⟩
            · have h0 := of_decide_eq_false h0
              refine ev_lst ?_
              walk_at "sk"
              intro l
              refine ⟨l, _, rfl, List.mem_cons_self .., [(mo, .lst (M.map V3.d)), (l, .lst (([] : List V3).map V3.d)), (p, .lst (vs.map V3.d)), (ax, .lst ([eX, eY].map V3.d)), (tb, .dic []), (ar, .lst (arcD L)), (fn, .dic kvs), (x, .lst (Ps.map V3.d))], ⟨[], .swap ..⟩, inner _ l [] (by simp) (.inl rfl) fun kvs L da y7 y9 y10 hF hA hB hC hLl => ⟨_, sub_keep (sub_cons (sub_refl _)), kvs, L, da, rfl, hF, hA, fun u hu hu0 s hs => ?_, by omega, hj1, _, _, _, _, _, rfl⟩⟩
              rw [etn] at hu
              rcases List.mem_append.mp hu with hu | hu
              · exact hB u hu hu0 s hs
              · rw [List.mem_singleton] at hu
                rw [hu] at hu0
                exact absurd hu0 h0
        · obtain ⟨kvs, L, da, rfl, hF, hA, hB, hLl, hjl, y7, y8, y9, y10, y11, rfl⟩ := hI
          rw [List.length_map, List.length_map] at hB hLl
          rw [List.take_length] at hB
          refine ⟨_, sub_refl _, kvs, L, da, rfl, hF, fun u hu => ?_, by omega, by omega, _, _, _, _, _, _, _, rfl⟩
          rw [et] at hu
          rcases List.mem_append.mp hu with hu | hu
          · exact hA u hu
          · rw [List.mem_singleton.mp hu]; exact hB
    · obtain ⟨kvs, L, da, rfl, hF, hA, hLl, hil, y5, y6, y7, y8, y9, y10, y11, rfl⟩ := hI
      rw [List.length_map, List.length_map] at hF hA hLl
      rw [List.take_length] at hF hA
      have hvm : ∀ v, Cor M v → v ∈ vs := fun v hc => (hvs v).mpr hc
      refine sx_seq ?_
      refine sx_for (ei_list ?_)
      walk_at "sk"
      refine ⟨ar, arcD L, rfl, .tail _ (.tail _ (.tail _ (.tail _ (.head _)))), fun m ρ' O' => ∃ kv2, O' = [(mo, .lst (M.map V3.d)), (p, .lst (vs.map V3.d)), (ax, .lst ([eX, eY].map V3.d)), (tb, .dic []), (ar, .lst (arcD L)), (fn, .dic kv2), (x, .lst (Ps.map V3.d))] ∧ OFound M kvs ((L.take m).flatMap fun wn => [(wn.1, wn.2), (wn.1, wn.2.neg)]) kv2 ∧ m ≤ L.length ∧ ∃ y5 y6 y7 y8 y9 y10 y11, ρ' = [some (.ptr x), some (.ptr mo), some (.ptr fn), some (.ptr ar), some (.ptr tb), y5, y6, y7, y8, y9, y10, y11],
        ⟨kvs, rfl, .nil hF.rc, Nat.zero_le _, _, _, _, _, _, _, _, rfl⟩, fun m ρ' O' _ hI q hq => ?_, fun m k ρ' O' hk hI => ?_, fun ρ' O' hI => ?_⟩
      · obtain ⟨kv2, rfl, _⟩ := hI
        rw [List.mem_singleton] at hq
        rw [hq]
        simp
      · obtain ⟨kv2, rfl, hO, hm, y5, y6, y7, y8, y9, y10, y11, rfl⟩ := hI
        unfold arcD at hk
        rw [List.getElem?_map, List.getElem?_map] at hk
        cases hw : L[m]? with
        | none => rw [hw] at hk; cases hk
        | some wn =>
          rw [hw] at hk
          cases hk
          obtain ⟨u, n⟩ := wn
          have hm1 := (List.getElem?_eq_some_iff.mp hw).1
          have etm : L.take (m + 1) = L.take m ++ [(u, n)] := by rw [List.take_add_one, hw]; rfl
          obtain ⟨r1, a1⟩ := hF.ls _ (List.mem_of_getElem? hw)
          have hnb := hMp.bd n r1.mem
          have h0 : u.dot n = 0 := by rw [V3.dot_comm]; exact r1.on
          walk_at "sk"
          refine sx_for (ei_less (ei_list ?_))
          walk_at "sk"
          refine ev_lst ?_
          walk_at "sk"
          refine ⟨rfl, callK0 ⟨n, rfl, rfl, ?_⟩⟩
          walk_at "sk"
          intro l
          refine ⟨l, _, rfl, List.mem_cons_self .., [(mo, .lst (M.map V3.d)), (l, .lst ([n, n.neg].map V3.d)), (p, .lst (vs.map V3.d)), (ax, .lst ([eX, eY].map V3.d)), (tb, .dic []), (ar, .lst (arcD L)), (fn, .dic kv2), (x, .lst (Ps.map V3.d))], ⟨[], .swap ..⟩, fun q ρ' O' => ∃ kv2, O' = [(mo, .lst (M.map V3.d)), (l, .lst ([n, n.neg].map V3.d)), (p, .lst (vs.map V3.d)), (ax, .lst ([eX, eY].map V3.d)), (tb, .dic []), (ar, .lst (arcD L)), (fn, .dic kv2), (x, .lst (Ps.map V3.d))] ∧ OFound M kvs (((L.take m).flatMap fun wn => [(wn.1, wn.2), (wn.1, wn.2.neg)]) ++ ([n, n.neg].take q).map fun s => (u, s)) kv2 ∧ q ≤ 2 ∧ ∃ y5 y6 y9 y10 y11, ρ' = [some (.ptr x), some (.ptr mo), some (.ptr fn), some (.ptr ar), some (.ptr tb), y5, y6, some (.dat u.d), some (.dat n.d), y9, y10, y11],
            ⟨kv2, rfl, by simpa using hO, Nat.zero_le _, _, _, _, _, _, rfl⟩, fun q ρ' O' _ hI z hz => ?_, fun q k ρ' O' hk hI => ?_, fun ρ' O' hI => ?_⟩
          · obtain ⟨kv2, rfl, _⟩ := hI
            rw [List.mem_singleton] at hz
            rw [hz]
            exact .tail _ (.head _)
          · obtain ⟨kv2, rfl, hO, hq, y5, y6, y9, y10, y11, rfl⟩ := hI
            have hk : (([n, n.neg].map V3.d).map Kn.dat)[q]? = some k := hk
            rw [List.getElem?_map, List.getElem?_map] at hk
            cases hs : [n, n.neg][q]? with
            | none => rw [hs] at hk; cases hk
            | some s =>
              rw [hs] at hk
              cases hk
              have hsm' := List.mem_of_getElem? hs
              have hq1 : q + 1 ≤ 2 := (List.getElem?_eq_some_iff.mp hs).1
              have ets : [n, n.neg].take (q + 1) = [n, n.neg].take q ++ [s] := by rw [List.take_add_one, hs]; rfl
              have hsf : u.dot s = 0 ∧ s.Bd 12 := by
                simp only [List.mem_cons, List.not_mem_nil, or_false] at hsm'
                rcases hsm' with rfl | rfl
                · exact ⟨h0, hnb⟩
                · exact ⟨by rw [V3.dot_neg, h0]; rfl, hnb.neg⟩
              refine tg_name ?_
              walk_at "sk"
              refine ⟨rfl, [(mo, .lst (M.map V3.d))], _, .refl _, M, u, s, 100, 12, mo, rfl, hMp, hMne, r1.pr.nz, hsf.1, r1.bd, hsf.2, by decide, by decide, rfl, fun r hnr hbr => ?_⟩
              have esr : sg M r = comb (sg M u) (sg M s) := hnr.sg r1.pr.nz hsf.1
              walk_at "sk"
              refine ev_bmD ?_
              walk_at "sk"
              refine ⟨⟨fn, kv2, rfl, by simp⟩, ?_⟩
              walk_at "sk"
              refine ⟨rfl, [(mo, .lst (M.map V3.d))], _, .refl _, M, mo, r, rfl, hsm, by omega, rfl, ?_⟩
              walk_at "sk"
              refine om_setdef (j := 6) (kvs := kv2) (ns := sg M r) rfl (by have := hO.rc.few h5M; omega) fun d' => ?_
              refine ⟨_, sub_refl _, _, rfl, ?_, hq1, _, _, _, _, _, rfl⟩
              rw [ets, List.map_append, ← List.append_assoc]
              exact hO.snoc ⟨hnr.prim r1.pr.nz hsf.1, hbr.mono (by decide)⟩ esr
          · obtain ⟨kv2, rfl, hO, hq, y5, y6, y9, y10, y11, rfl⟩ := hI
            refine ⟨_, sub_keep (sub_cons (sub_refl _)), kv2, rfl, ?_, hm1, _, _, _, _, _, _, _, rfl⟩
            rw [etm, List.flatMap_append]
            exact hO
      · obtain ⟨kv2, rfl, hO, hm, y5, y6, y7, y8, y9, y10, y11, rfl⟩ := hI
        rw [show ((arcD L).map Kn.dat).length = L.length by unfold arcD; rw [List.length_map, List.length_map], List.take_length] at hO
        have hkk : ∀ k, k ∈ keys kv2 ↔ KK M k := kk_of_law hMp hF hvm (fun p a ⟨hp, v, s, hc, h0, hs, e⟩ => e ▸ hA v (hvm v hc) p hp h0 s hs) hO fun wn => by
          rw [List.mem_flatMap]
          constructor
          · rintro ⟨x, hx, h⟩
            simp only [List.mem_cons, List.not_mem_nil, or_false] at h
            rcases h with rfl | rfl
            · exact ⟨x, hx, rfl, .inl rfl⟩
            · exact ⟨x, hx, rfl, .inr rfl⟩
          · rintro ⟨x, hx, e, h⟩
            refine ⟨x, hx, ?_⟩
            obtain ⟨a, b⟩ := wn
            cases e
            rcases h with h | h
            · cases h; exact .head _
            · cases h; exact .tail _ (.head _)
        refine sx_seq ?_
        refine sx_for (ei_list ?_)
        walk_at "sk"
        refine oc_listD (kvs := kv2) (.dic (by simp)) fun l => ?_
        refine ⟨l, _, rfl, .head _, fun m ρ' O' => ∃ T, O' = [(l, .lst (kv2.map fun kv => tupI kv.1)), (mo, .lst (M.map V3.d)), (p, .lst (vs.map V3.d)), (ax, .lst ([eX, eY].map V3.d)), (tb, .dic T), (ar, .lst (arcD L)), (fn, .dic kv2), (x, .lst (Ps.map V3.d))] ∧ TFound Ps Ps.length ((keys kv2).take m) T ∧ m ≤ kv2.length ∧ ∃ y5 y6 y7 y8 y9 y10 y11, ρ' = [some (.ptr x), some (.ptr mo), some (.ptr fn), some (.ptr ar), some (.ptr tb), y5, y6, y7, y8, y9, y10, y11],
          ⟨[], rfl, .nil, Nat.zero_le _, _, _, _, _, _, _, _, rfl⟩, fun m ρ' O' _ hI q hq => ?_, fun m k ρ' O' hk hI => ?_, fun ρ' O' hI => ?_⟩
        · obtain ⟨T, rfl, _⟩ := hI
          rw [List.mem_singleton] at hq
          rw [hq]
          exact .head _
        · obtain ⟨T, rfl, hT, hm, y5, y6, y7, y8, y9, y10, y11, rfl⟩ := hI
          have hk : ((kv2.map fun kv => tupI kv.1).map Kn.dat)[m]? = some k := hk
          rw [List.getElem?_map, List.getElem?_map] at hk
          cases hw : kv2[m]? with
          | none => rw [hw] at hk; cases hk
          | some kv =>
            rw [hw] at hk
            cases hk
            have hm1 := (List.getElem?_eq_some_iff.mp hw).1
            have hkm : kv.1 ∈ keys kv2 := List.mem_map.mpr ⟨kv, List.mem_of_getElem? hw, rfl⟩
            have etk : (keys kv2).take (m + 1) = (keys kv2).take m ++ [kv.1] := by
              unfold keys
              rw [List.take_add_one, List.getElem?_map, hw]; rfl
            obtain ⟨r, hlk, hr, ek⟩ := hO.rc.at hkm
            have esr : sg Ps r = kv.1.take Ps.length := by rw [ek, ← sg_take, hMo.take]
            refine tg_name ?_
            walk_at "sk"
            refine ev_bmD ?_
            walk_at "sk"
            refine ⟨⟨tb, T, rfl, by simp⟩, ?_⟩
            walk_at "sk"
            refine ev_slT ?_
            walk_at "sk"
            refine eo_none ?_
            refine eo_some ?_
            walk_at "sk"
            refine oc_len (ds := Ps.map V3.d) (.lst (by simp)) ?_
            refine ⟨_, rfl, ?_⟩
            rw [List.length_map, cut_to]
            walk_at "sk"
            refine ev_dget ?_
            walk_at "sk"
            refine ⟨kv2, kv.1, r.d, .dic (by simp), rfl, hlk, ?_⟩
            walk_at "sk"
            rw [show PyData.tuple ((kv.1.take Ps.length).map PyData.int) = tupI (sg Ps r) by rw [esr]; rfl]
            refine om_setdef (j := 4) (kvs := T) (ns := sg Ps r) rfl (by have := hT.rc.few h5; omega) fun d' => ?_
            refine ⟨_, sub_refl _, _, rfl, ?_, hm1, _, _, _, _, _, _, _, rfl⟩
            rw [etk]
            exact hT.snoc hr esr
        · obtain ⟨T, rfl, hT, hm, y5, y6, y7, y8, y9, y10, y11, rfl⟩ := hI
          rw [show ((kv2.map fun kv => tupI kv.1).map Kn.dat).length = (keys kv2).length by unfold keys; rw [List.length_map, List.length_map, List.length_map], List.take_length] at hT
          have hC : CellsOk Ps T := cells_of_law hMo hMp hkk hO.rc hT
          walk_at "sk"
          exact ⟨[(tb, .dic T)], sub_cons (sub_cons (sub_cons (sub_cons (sub_keep (sub_nil _))))), q tb T hC⟩
end
end Sk


/-! La8: a part of the law: what is told of one lot -/
namespace Sk
open PySem PySem.Spec PyProof.Rows L2
local macro_rules | `(tactic| walk_at "sk") => `(tactic| repeat' (first
  | ((with_reducible show Ev _ (tVar _) _ _ _); refine ev_var rfl ?_) | with_reducible refine ev_int ?_ | with_reducible refine ev_bl ?_ | with_reducible refine ev_non ?_ | with_reducible refine ev_str ?_ | with_reducible refine ev_ty ?_ | with_reducible refine ev_ref ?_
  | with_reducible refine ev_op ?_ | with_reducible refine ev_un ?_ | with_reducible refine ev_cb ?_ | with_reducible refine ea_cons ?_ | with_reducible refine ea_nil ?_
  | with_reducible refine ev_if ?_ | with_reducible refine ev_and ?_ | with_reducible refine ev_or ?_ | with_reducible refine ev_not ?_ | with_reducible refine ev_tup ?_ | with_reducible refine ev_call ?_
  | with_reducible refine sx_seq ?_ | with_reducible refine sx_asg ?_ | with_reducible refine tg_name ?_ | with_reducible refine sx_ret ?_ | with_reducible refine sx_next ?_ | with_reducible refine sx_drop ?_ | with_reducible refine sx_if ?_
  | with_reducible refine et_chain ?_ | with_reducible refine et_test ?_ | with_reducible refine et_B ?_ | with_reducible refine et_not ?_ | with_reducible refine et_and ?_ | with_reducible refine et_or ?_
  | with_reducible refine o_add ?_ | with_reducible refine o_sub ?_ | with_reducible refine o_lt ?_ | with_reducible refine o_le ?_ | with_reducible refine o_gt ?_ | with_reducible refine o_ge ?_
  | with_reducible refine o_neg ?_ | with_reducible refine o_subB ?_ | with_reducible refine o_mul ?_ ?_
  | ((with_reducible show Op2 _ (rIx _) _ _ _ _); refine o_ix (.tup _) rfl ?_)
  | ((with_reducible show Op2 _ (rEqD _) _ _ _ _); (first | refine o_eqD (.dat _) (.dat _) rfl rfl ?_ | refine o_eqD (.dat _) (.dat _) (by decide +kernel) (by decide +kernel) ?_))
  | ((with_reducible show Op2 _ (rNeD _) _ _ _ _); (first | refine o_neD (.dat _) (.dat _) rfl rfl ?_ | refine o_neD (.dat _) (.dat _) (by decide +kernel) (by decide +kernel) ?_))
  | ((with_reducible show Op2 _ (rIn _ false) _ _ _ _); refine o_in (.tup _) (by rfl) (by rfl) ?_) | ((with_reducible show Op2 _ (rIn _ true) _ _ _ _); refine o_notIn (.tup _) (by rfl) (by rfl) ?_)
  | ((with_reducible show OpC _ (rIsi _) _ _ _); (first | refine oc_isi (b := true) (by rfl) ?_ | refine oc_isi (b := false) (by rfl) ?_))
  | ((with_reducible show OpC _ _ _ _ _); refine oc_len (.tup _) ?_)
  | ((with_reducible show Tg _ (gTup _ _ _) _ _ _ _); (first | with_reducible refine tg_pair ?_ | refine tg_tup rfl ?_)) | ((with_reducible show Tgs _ (gCons _ _) _ _ _ _); refine tgs_cons ?_) | ((with_reducible show Tgs _ gNil _ _ _ _); refine tgs_nil ?_)
  | ((with_reducible show ∃ ds, alld _ ds ∧ _); (first
    | refine ⟨[_, _, _], ⟨rfl, rfl, rfl, trivial⟩, Nat.le_of_ble_eq_true rfl, ?_⟩ | refine ⟨[_, _], ⟨rfl, rfl, trivial⟩, Nat.le_of_ble_eq_true rfl, ?_⟩ | refine ⟨[_], ⟨rfl, trivial⟩, Nat.le_of_ble_eq_true rfl, ?_⟩ | refine ⟨[], trivial, Nat.le_of_ble_eq_true rfl, ?_⟩
    | refine ⟨[_, _, _, _], ⟨rfl, rfl, rfl, rfl, trivial⟩, Nat.le_of_ble_eq_true rfl, ?_⟩ | refine ⟨[_, _, _, _, _], ⟨rfl, rfl, rfl, rfl, rfl, trivial⟩, Nat.le_of_ble_eq_true rfl, ?_⟩ | refine ⟨[_, _, _, _, _, _], ⟨rfl, rfl, rfl, rfl, rfl, rfl, trivial⟩, Nat.le_of_ble_eq_true rfl, ?_⟩
    | refine ⟨[_, _, _, _, _, _, _], ⟨rfl, rfl, rfl, rfl, rfl, rfl, rfl, trivial⟩, Nat.le_of_ble_eq_true rfl, ?_⟩))
  | ((with_reducible show (_ = true → _) ∧ (_ = false → _)); (first | refine pickT rfl ?_ | refine pickF rfl ?_))
  | ((with_reducible show ∃ _, Kn.dat (PyData.bool _) = Kn.dat (PyData.bool _) ∧ _); refine ⟨_, rfl, ?_⟩)
  | ((with_reducible show ∃ _, Kn.dat _ = Kn.dat _ ∧ _); refine ⟨_, rfl, ?_⟩) | fail))

section
variable {P : Program} {w : World} {K : PySem.W.Frag} {mg : Str → Option Value} {base : Heap} {f : Addr} {fd : FuncData} {C : Addr}

/-! ### what is shown -/
theorem shownAll_map : ∀ xs : List PyData, PyData.shownAll xs = xs.map PyData.shown
  | [] => by rw [PyData.shownAll]; rfl
  | x :: xs => by rw [PyData.shownAll, shownAll_map xs]; rfl
theorem sum_le {α : Type} (g : α → Nat) (m : Nat) : ∀ xs : List α, (∀ x ∈ xs, g x ≤ m) → (xs.map g).sum ≤ m * xs.length
  | [], _ => by simp
  | x :: xs, h => by
    have h1 := h x (List.mem_cons_self ..)
    have h2 := sum_le g m xs fun y hy => h y (List.mem_cons_of_mem _ hy)
    rw [List.map_cons, List.sum_cons, List.length_cons, Nat.mul_succ]
    omega
theorem shown_sum (xs : List PyData) (m : Nat) (h : ∀ x ∈ xs, x.shown.length ≤ m) : ((PyData.shownAll xs).map (·.length)).sum ≤ m * xs.length := by
  rw [shownAll_map, List.map_map]
  exact sum_le _ m xs h
theorem shownAll_len (xs : List PyData) : (PyData.shownAll xs).length = xs.length := by rw [shownAll_map, List.length_map]
theorem sign_shown {n : Int} (h : n = -1 ∨ n = 0 ∨ n = 1) : (PyData.int n).shown.length ≤ 2 := by
  rcases h with rfl | rfl | rfl <;> decide +kernel
theorem row_shown {k : Rw} (h : ∀ x ∈ k, x = -1 ∨ x = 0 ∨ x = 1) (h5 : k.length ≤ 5) : (tupI k).shown.length ≤ 23 := by
  have h1 := tupleText_len_le (PyData.shownAll (k.map PyData.int))
  have h2 := shown_sum (k.map PyData.int) 2 fun x hx => by
    obtain ⟨n, hn, rfl⟩ := List.mem_map.mp hx
    exact sign_shown (h n hn)
  rw [shownAll_len] at h1
  rw [List.length_map] at h1 h2
  show (tupleText (PyData.shownAll (k.map PyData.int))).length ≤ 23
  omega
theorem showable_map (xs : List PyData) : PyData.showableAll xs = xs.all PyData.showable := by
  induction xs with
  | nil => rfl
  | cons x xs ih => rw [PyData.showableAll, ih]; rfl
theorem row_showable {k : Rw} (h : ∀ x ∈ k, x = -1 ∨ x = 0 ∨ x = 1) : (tupI k).showable = true := by
  show PyData.showableAll (k.map PyData.int) = true
  rw [showable_map, List.all_eq_true]
  intro x hx
  obtain ⟨n, hn, rfl⟩ := List.mem_map.mp hx
  rcases h n hn with rfl | rfl | rfl <;> decide +kernel
theorem rows_lay (ks : List Rw) : PyData.canLayAll0 (ks.map tupI) = true ∧ PyData.depthAll (ks.map tupI) ≤ 1 := by
  have := shaped_rows (ks := ks)
  unfold SeqAt.shaped at this
  refine ⟨by simpa [PyData.canLay0] using (Bool.and_eq_true_iff.mp this).1, ?_⟩
  induction ks with
  | nil => decide
  | cons k ks ih =>
    have h2 : PyData.depthAll (k.map PyData.int) = 0 := by
      clear ih this
      induction k with
      | nil => rfl
      | cons n k ih => simp only [List.map_cons, PyData.depthAll, PyData.depth, ih]; rfl
    have ih := ih (by have := shaped_rows (ks := ks); unfold SeqAt.shaped at this; exact this)
    simp only [List.map_cons, PyData.depthAll, tupI, PyData.depth, h2] at ih ⊢
    omega
/-- what the law shows -/
structure Showy (d : PyData) : Prop where
  sh : d.showable = true
  nd : d.hasDict = false
  dp : d.depth ≤ 60
  le : d.shown.length ≤ sizeLine
theorem showy_of {rows : List Rw} {bs : List Bool} (h : ∀ k ∈ rows, (∀ x ∈ k, x = -1 ∨ x = 0 ∨ x = 1) ∧ k.length ≤ 5) (hl : rows.length ≤ 243) (hb : bs.length ≤ 5) : Showy (.list (.tuple (rows.map tupI) :: bs.map PyData.bool)) := by
  have hlay : PyData.canLayAll0 (bs.map PyData.bool) = true ∧ PyData.depthAll (bs.map PyData.bool) = 0 := by
    clear hb
    induction bs with
    | nil => exact ⟨rfl, rfl⟩
    | cons b bs ih => exact ⟨by simp only [List.map_cons, PyData.canLayAll0, PyData.canLay0, ih.1, Bool.and_self], by simp only [List.map_cons, PyData.depthAll, PyData.depth, ih.2]; rfl⟩
  obtain ⟨r1, r2⟩ := rows_lay rows
  refine ⟨?_, PyData.hasDict_of_canLay _ ?_, ?_, ?_⟩
  · show (PyData.showableAll (rows.map tupI) && PyData.showableAll (bs.map PyData.bool)) = true
    rw [showable_map, showable_map, Bool.and_eq_true_iff, List.all_eq_true, List.all_eq_true]
    refine ⟨fun x hx => ?_, fun x hx => ?_⟩
    · obtain ⟨k, hk, rfl⟩ := List.mem_map.mp hx
      exact row_showable (h k hk).1
    · obtain ⟨b, _, rfl⟩ := List.mem_map.mp hx
      rfl
  · simp only [PyData.canLay0, PyData.canLayAll0, r1, hlay.1, Bool.and_self]
  · simp only [PyData.depth, PyData.depthAll, hlay.2]
    omega
  · have h1 := tupleText_len_le (PyData.shownAll (rows.map tupI))
    have h2 := shown_sum (rows.map tupI) 23 fun x hx => by
      obtain ⟨k, hk, rfl⟩ := List.mem_map.mp hx
      exact row_shown (h k hk).1 (h k hk).2
    rw [shownAll_len] at h1
    rw [List.length_map] at h1 h2
    have h3 := listText_len_le (PyData.shownAll (.tuple (rows.map tupI) :: bs.map PyData.bool))
    rw [shownAll_len, List.length_cons, List.length_map] at h3
    have h4 := shown_sum (bs.map PyData.bool) 5 fun x hx => by
      obtain ⟨b, _, rfl⟩ := List.mem_map.mp hx
      cases b <;> decide +kernel
    rw [List.length_map] at h4
    have e : (PyData.tuple (rows.map tupI)).shown = tupleText (PyData.shownAll (rows.map tupI)) := by rw [PyData.shown]
    have e2 : (PyData.list (.tuple (rows.map tupI) :: bs.map PyData.bool)).shown = listText (PyData.shownAll (.tuple (rows.map tupI) :: bs.map PyData.bool)) := by rw [PyData.shown]
    rw [e2]
    have e3 : sizeLine = 16777216 := rfl
    rw [PyData.shownAll, List.map_cons, List.sum_cons, e] at h3
    rw [PyData.shownAll, e]
    omega

/-! ### a part -/
structure PartA (u sky : Tr) (b : Bool) (L ins outs : List Rw) : Prop where
  ok : TOk 8 u
  pl : Pl u.plV
  sc : SC u.plV L
  ei : ins = mine u L
  eo : outs = L.filter fun k => !u.hK u.plV k
  fit : sky.fit
  dep : sky.dep ≤ 6
  so : ∀ r, RayOk r → sg u.plV r ∈ ins → sky.holds r = b
theorem flat_ints (k : Rw) : (k.map PyData.int).all flatD = true := by
  induction k with
  | nil => rfl
  | cons n k ih => simp only [List.map_cons, List.all_cons, ih, Bool.and_true]; rfl
theorem any_zero (k : Rw) : ((k.map PyData.int).any fun z => PyData.eqv z (.int 0)) = !(zI k == 0) := by
  induction k with
  | nil => rfl
  | cons n k ih =>
    rw [List.map_cons, List.any_cons, ih]
    unfold zI
    rw [List.filter_cons, show PyData.eqv (.int n) (.int 0) = (n == 0) from eqv_int n 0]
    by_cases h : n = 0
    · simp [h]
    · simp [h]
theorem o_neS {B : Bs} {a b : Str} {O : Cs} {Φ : Kn → Cs → Prop} (q : Φ (.dat (.bool (!decide (V.str a = V.str b)))) O) : Op2 B rNe (.dat (.str a)) (.dat (.str b)) O Φ := fun σ ρ H τ F v w hv hw R Q hQ => by
  cases hv
  cases hw
  exact ⟨rfl, hQ _ _ _ _ q (R.push (.bl _))⟩
theorem o_eqS {B : Bs} {a b : Str} {O : Cs} {Φ : Kn → Cs → Prop} (q : Φ (.dat (.bool (decide (V.str a = V.str b)))) O) : Op2 B rEq (.dat (.str a)) (.dat (.str b)) O Φ := fun σ ρ H τ F v w hv hw R Q hQ => by
  cases hv
  cases hw
  exact ⟨rfl, hQ _ _ _ _ q (R.push (.bl _))⟩
theorem ne_same (s : Str) : (!decide (V.str s = V.str s)) = false := by simp
def w_lpart (C : Addr) : WT := fun ks O Φ => ∃ (u sky : Tr) (b : Bool) (L ins outs : List Rw) (p x y : Addr), ks = [.ptr p, .dat sky.d, .ptr x, .ptr y, .dat (.bool b)] ∧ PartA u sky b L ins outs ∧ O = [(p, .ins C (lotF u)), (x, .lst (ins.map tupI)), (y, .lst (outs.map tupI))] ∧ Φ (.dat (.bool true)) O
theorem cl_law_part_right (T : Bt mg) (F : Df K mg "_law_part_right" s_law_part_right f fd) (C_cells_of : Cl P w K mg base "cells_of" 15 1 (w_cells_of C)) (C_is_empty : Cl P w K mg base "is_empty" 16 1 (w_is_empty C)) (C_is_open : Cl P w K mg base "is_open" 15 1 (w_is_open C)) (C_has_open : Cl P w K mg base "has_open" 15 1 (w_has_open C)) (C_any_ray : Cl P w K mg base "any_ray" 15 1 (w_any_ray C))
    (C_law_is_wide : Cl P w K mg base "_law_is_wide" 3 2 w_lwide) (C_law_is_ray : Cl P w K mg base "_law_is_ray" 2 1 w_lis_ray) (C_law_in : Cl P w K mg base "_law_in" 8 2 (w_lin 6)) : ClG P w K mg base "_law_part_right" 17 5 (w_lpart C) := by
  have nd := sc_law_part_right.nd
  refine clG_of 16 5 F sc_law_part_right rfl (fun _ _ _ _ _ _ us hl => match us, hl with | [_, _, _, _, _], _ => rfl) fun cdv A outer s H E hr hgd => ⟨_, (pss_cons (ps_set (i := 5) nd rfl (Or.inl rfl) (pe_cmpR (kNeD (K := K) hr.units) (pe_lc (own := [("_law_marks", 8)]) (g := gName 8) (by rfl) nd (kList (K := K) (pv 2)) (blkOk_by (own := [("_law_marks", 8)]) (N := N_law_part_right) (sc := defScope s_law_part_right) (by decide +kernel)) (fun _ _ _ _ _ => (pg_name (i := 8) nd rfl (Or.inl rfl))) (fun _ _ _ _ _ => (pts_one (pt_cmpR (kNotIn (K := K)) pe_int (pv 8) (by with_unfolding_all rfl)))) (fun _ _ _ _ _ => (pv 8))) (pe_lst pa_nil) (nomark _)))
      (pss_cons (ps_set (i := 6) nd rfl (Or.inl rfl) (pe_callB (kRepr (K := K) hgd hr.units) (by rfl) T.repr_ (by decide +kernel) (pa_cons (pe_lst (pa_cons (pe_callTy (kTupleOf (K := K)) (by rfl) T.tuple_ (by decide +kernel) (pa_cons (pv 2) pa_nil)) (pa_cons (pe_cmpR (kEqD (K := K) hr.units) (pv 2) (pe_lst pa_nil) (nomark _)) (pa_cons (pe_cl C_law_is_wide (hr.mono (by decide)) (by rfl) (pa_cons (pv 2) (pa_cons (pv 3) pa_nil))) (pa_cons (pv 5) pa_nil))))) pa_nil)))
      (pss_cons (ps_if (pt_cmpR op_ne (pe_callB (kRepr (K := K) hgd hr.units) (by rfl) T.repr_ (by decide +kernel) (pa_cons (pe_lst (pa_cons (pe_cl C_cells_of (hr.mono (by decide)) (by rfl) (pa_cons (pv 0) pa_nil)) (pa_cons (pe_cl C_is_empty (hr.mono (by decide)) (by rfl) (pa_cons (pv 0) pa_nil)) (pa_cons (pe_cl C_is_open (hr.mono (by decide)) (by rfl) (pa_cons (pv 0) pa_nil)) (pa_cons (pe_cl C_has_open (hr.mono (by decide)) (by rfl) (pa_cons (pv 0) pa_nil)) pa_nil))))) pa_nil)) (pv 6) (nomark _)) (pss_one (ps_ret pe_bl)) pss_nil)
      (pss_cons (ps_set (i := 7) nd rfl (Or.inl rfl) (pe_cl C_any_ray (hr.mono (by decide)) (by rfl) (pa_cons (pv 0) pa_nil)))
      (pss_cons (ps_if (pt_cmpR (kEqD (K := K) hr.units) (pv 2) (pe_lst pa_nil) (nomark _)) (pss_one (ps_ret (pe_cmpR op_isN (pv 7) pe_non (nomark _)))) pss_nil)
      (pss_one (ps_ret (pe_and (pe_cl C_law_is_ray (hr.mono (by decide)) (by rfl) (pa_cons (pv 7) pa_nil)) (pe_one (pe_cmpR (kEqD (K := K) hr.units) (pe_cl C_law_in (hr.mono (by decide)) (by rfl) (pa_cons (pv 1) (pa_cons (pv 7) pa_nil))) (pv 4) (nomark _))))))))))), ?_⟩
  intro B ks O Φ hl ⟨u, sky, b, L, ins, outs, p, x, y, e1, hA, e2, q⟩
  subst e1 e2
  have h5 := hA.pl.le
  obtain ⟨hLn, hLr⟩ := hA.sc.facts
  have hLfew := hA.sc.few h5
  have hrow : ∀ k ∈ L, (∀ x ∈ k, x = -1 ∨ x = 0 ∨ x = 1) ∧ k.length = u.plV.length := fun k hk => by
    obtain ⟨r, _, rfl⟩ := hLr k hk
    exact ⟨sg_signs _ _, sg_len _ _⟩
  have hiL : ∀ k, k ∈ ins ↔ k ∈ L ∧ u.hK u.plV k = true := fun k => by rw [hA.ei]; exact List.mem_filter
  have hoL : ∀ k, k ∈ outs ↔ k ∈ L ∧ u.hK u.plV k = false := fun k => by rw [hA.eo, List.mem_filter]; simp
  have hil : ins.length ≤ 243 := by
    rw [hA.ei]
    exact Nat.le_trans (List.length_filter_le _ _) hLfew
  have hlc : ∀ {kvs : Kv}, LC u kvs → keys kvs = ins := fun h => by rw [h.tups hA.sc, hA.ei]
  have hla : LotA C u p [.ptr p] [(p, .ins C (lotF u))] := ⟨rfl, rfl, hA.ok, hA.pl⟩
  walk_at "sk"
  refine ev_lcF (ei_list ?_) (own_name (by decide))
  walk_at "sk"
  refine ⟨x, ins.map tupI, rfl, by simp, Rw, ins, fun k => .dat (tupI k), fun k => if zI k == 0 then some (tupI k) else none, by rw [List.map_map]; rfl, by omega, fun q hq => ?_, fun k hk => ?_, fun s => ?_⟩
  · rw [List.mem_singleton] at hq
    rw [hq]
    simp
  · refine tg_name ?_
    walk_at "sk"
    refine o_notIn (.tup _) rfl (flat_ints k) ?_
    rw [any_zero, Bool.not_not]
    refine ⟨_, rfl, fun h => ?_, fun h => ⟨by show (if (zI k == 0) = true then _ else _) = _; rw [h]; rfl, sub_refl _⟩⟩
    walk_at "sk"
    exact ⟨by show (if (zI k == 0) = true then _ else _) = _; rw [h]; rfl, sub_refl _⟩
  walk_at "sk"
  refine ev_lst ?_
  walk_at "sk"
  intro e
  rw [fm_rows]
  refine o_neD (.lst (List.mem_cons_of_mem _ (List.mem_cons_self ..))) (.lst (List.mem_cons_self ..)) shaped_rows (by decide +kernel) ?_
  rw [eqv_nil]
  obtain ⟨wd, hwd⟩ : ∃ wd, (!((ins.filter fun k => zI k == 0).map tupI).isEmpty) = wd := ⟨_, rfl⟩
  have hwd2 : wd = true ↔ ∃ k ∈ ins, zI k = 0 := by
    rw [← hwd, Bool.not_eq_true', List.isEmpty_eq_false_iff]
    constructor
    · intro h
      obtain ⟨d, hd⟩ := List.exists_mem_of_ne_nil _ h
      obtain ⟨k, hk, _⟩ := List.mem_map.mp hd
      obtain ⟨h1, h2⟩ := List.mem_filter.mp hk
      exact ⟨k, h1, by simpa using h2⟩
    · rintro ⟨k, h1, h2⟩
      exact List.ne_nil_of_mem (List.mem_map.mpr ⟨k, List.mem_filter.mpr ⟨h1, by simpa using h2⟩, rfl⟩)
  rw [hwd]
  refine tg_name ?_
  refine Sx.less (O' := [(p, .ins C (lotF u)), (x, .lst (ins.map tupI)), (y, .lst (outs.map tupI))]) ?_ (sub_cons (sub_cons (sub_refl _)))
  walk_at "sk"
  refine ev_lst ?_
  walk_at "sk"
  refine oc_tuple (ds := ins.map tupI) (.lst (by simp)) (by rw [List.length_map]; omega) ?_
  walk_at "sk"
  refine ev_lst ?_
  walk_at "sk"
  intro e
  refine o_eqD (.lst (xs := ins.map tupI) (by simp)) (.lst (List.mem_cons_self ..)) shaped_rows (by decide +kernel) ?_
  rw [eqv_nil]
  have eie : (ins.map tupI).isEmpty = ins.isEmpty := by cases ins <;> rfl
  rw [eie]
  walk_at "sk"
  refine ⟨rfl, [(x, .lst (ins.map tupI)), (y, .lst (outs.map tupI))], [(e, .lst []), (p, .ins C (lotF u))], List.perm_append_comm (l₁ := [_, _]) (l₂ := [_, _]), ins, outs, u.plV.length, x, y, rfl, fun k hk => (hrow k ((hiL k).mp hk).1).2, fun k hk => (hrow k ((hoL k).mp hk).1).2, by omega, rfl, fun c hc => ?_⟩
  walk_at "sk"
  intro g
  refine ea_nil ?_
  have hsh : Showy (.list (.tuple (ins.map tupI) :: [ins.isEmpty, c, wd].map PyData.bool)) := showy_of (fun k hk => ⟨(hrow k ((hiL k).mp hk).1).1, by rw [(hrow k ((hiL k).mp hk).1).2]; exact h5⟩) hil (by show 3 ≤ 5; decide)
  refine oc_repr (.lst (List.mem_cons_self ..)) hsh.sh hsh.nd hsh.dp hsh.le (fun v H h => ⟨_, h⟩) ?_
  refine tg_name ?_
  refine Sx.less (O' := [(p, .ins C (lotF u)), (x, .lst (ins.map tupI)), (y, .lst (outs.map tupI))]) ?_ ⟨[(g, .lst (.tuple (ins.map tupI) :: [ins.isEmpty, c, wd].map PyData.bool)), (e, .lst [])], (List.perm_append_comm (l₁ := [_, _, _, _]) (l₂ := [_])).trans (.cons _ (List.perm_append_comm_assoc [_] [_, _] [_]))⟩
  walk_at "sk"
  refine ev_lst ?_
  walk_at "sk"
  refine ⟨rfl, [(p, .ins C (lotF u))], _, .refl _, u, p, hla, fun kvs1 hl1 => ?_⟩
  rw [hlc hl1]
  walk_at "sk"
  refine ⟨rfl, [(p, .ins C (lotF u))], _, .refl _, u, p, hla, fun kvs2 hl2 => ?_⟩
  rw [hlc hl2]
  walk_at "sk"
  refine ⟨rfl, [(p, .ins C (lotF u))], _, .refl _, u, p, hla, fun kvs3 all b3 hl3 hall hb3 => ?_⟩
  have e3 : b3 = c := by
    rw [Bool.eq_iff_iff, hb3, hc, hlc hl3]
    have hall2 : ∀ k, k ∈ keys all ↔ k ∈ L := fun k => by
      rw [← mem_sortI, hA.sc.eq ⟨all, hall, rfl⟩]
    constructor
    · intro h s hs e he
      have hs2 := (hoL s).mp hs
      rw [h s ((hall2 s).mpr hs2.1) (fun z => by have := ((hiL s).mp z).2; rw [hs2.2] at this; exact nomatch this) e he, Bool.and_false]
    · intro h s hs hn e he
      have hsL := (hall2 s).mp hs
      have hso : s ∈ outs := (hoL s).mpr ⟨hsL, by
        rw [Bool.eq_false_iff]
        exact fun z => hn ((hiL s).mpr ⟨hsL, z⟩)⟩
      have := h s hso e he
      rw [decide_eq_false (fun z : e = s => hn (z ▸ he)), Bool.not_false, Bool.true_and] at this
      exact this
  rw [e3]
  walk_at "sk"
  refine ⟨rfl, [(p, .ins C (lotF u))], _, .refl _, u, p, hla, fun kvs4 b4 hl4 hb4 => ?_⟩
  have e4 : b4 = wd := by rw [Bool.eq_iff_iff, hb4, hwd2, hlc hl4]
  rw [e4]
  walk_at "sk"
  intro g2
  refine ea_nil ?_
  refine oc_repr (.lst (List.mem_cons_self ..)) hsh.sh hsh.nd hsh.dp hsh.le (fun v H h => ⟨_, h⟩) ?_
  walk_at "sk"
  refine o_neS ?_
  refine ⟨_, rfl, pickF (ne_same _) ?_⟩
  refine sx_next ?_
  refine Sx.less (O' := [(p, .ins C (lotF u)), (x, .lst (ins.map tupI)), (y, .lst (outs.map tupI))]) ?_ (sub_cons (sub_refl _))
  walk_at "sk"
  refine ⟨rfl, [(p, .ins C (lotF u))], _, .refl _, u, p, hla, fun kvs hl h0 => ?_, fun kvs r hl h0 hr hs => ?_⟩
  · rw [hlc hl] at h0
    walk_at "sk"
    refine ev_lst ?_
    walk_at "sk"
    intro e
    refine o_eqD (.lst (xs := ins.map tupI) (by simp)) (.lst (List.mem_cons_self ..)) shaped_rows (by decide +kernel) ?_
    rw [eqv_nil, eie]
    refine ⟨_, rfl, pickT (by rw [h0]; rfl) ?_⟩
    walk_at "sk"
    refine o_isN ?_
    exact ⟨_, sub_cons (sub_refl _), q⟩
  · rw [hlc hl] at h0 hs
    walk_at "sk"
    refine ev_lst ?_
    walk_at "sk"
    intro e
    refine o_eqD (.lst (xs := ins.map tupI) (by simp)) (.lst (List.mem_cons_self ..)) shaped_rows (by decide +kernel) ?_
    rw [eqv_nil, eie]
    refine ⟨_, rfl, pickF (List.isEmpty_eq_false_iff.mpr h0) ?_⟩
    walk_at "sk"
    refine ⟨rfl, callK0 ⟨r, rfl, hr, rfl, ?_⟩⟩
    walk_at "sk"
    refine ⟨rfl, callK0 ⟨sky, r, rfl, hA.fit, hA.dep, rfl, ?_⟩⟩
    rw [hA.so r hr hs]
    walk_at "sk"
    rw [show PyData.eqv (.bool b) (.bool b) = true by rw [PyData.eqv]; simp]
    exact ⟨_, sub_cons (sub_refl _), q⟩
end
end Sk


/-! La9: what the law draws: numbers, one of some, triples, normals, leaves -/
namespace Sk
open PySem PySem.Spec PyProof.Rows L2
local macro_rules | `(tactic| walk_at "sk") => `(tactic| repeat' (first
  | ((with_reducible show Ev _ (tVar _) _ _ _); refine ev_var rfl ?_) | with_reducible refine ev_int ?_ | with_reducible refine ev_bl ?_ | with_reducible refine ev_non ?_ | with_reducible refine ev_str ?_ | with_reducible refine ev_ty ?_ | with_reducible refine ev_ref ?_
  | with_reducible refine ev_op ?_ | with_reducible refine ev_un ?_ | with_reducible refine ev_cb ?_ | with_reducible refine ea_cons ?_ | with_reducible refine ea_nil ?_
  | with_reducible refine ev_if ?_ | with_reducible refine ev_and ?_ | with_reducible refine ev_or ?_ | with_reducible refine ev_not ?_ | with_reducible refine ev_tup ?_ | with_reducible refine ev_call ?_
  | with_reducible refine sx_seq ?_ | with_reducible refine sx_asg ?_ | with_reducible refine tg_name ?_ | with_reducible refine sx_ret ?_ | with_reducible refine sx_next ?_ | with_reducible refine sx_drop ?_ | with_reducible refine sx_if ?_
  | with_reducible refine et_chain ?_ | with_reducible refine et_test ?_ | with_reducible refine et_B ?_ | with_reducible refine et_not ?_ | with_reducible refine et_and ?_ | with_reducible refine et_or ?_
  | with_reducible refine o_add ?_ | with_reducible refine o_sub ?_ | with_reducible refine o_lt ?_ | with_reducible refine o_le ?_ | with_reducible refine o_gt ?_ | with_reducible refine o_ge ?_
  | with_reducible refine o_neg ?_ | with_reducible refine o_subB ?_ | with_reducible refine o_mul ?_ ?_
  | ((with_reducible show Op2 _ (rIx _) _ _ _ _); refine o_ix (.tup _) rfl ?_)
  | ((with_reducible show Op2 _ (rEqD _) _ _ _ _); (first | refine o_eqD (.dat _) (.dat _) rfl rfl ?_ | refine o_eqD (.dat _) (.dat _) (by decide +kernel) (by decide +kernel) ?_))
  | ((with_reducible show Op2 _ (rNeD _) _ _ _ _); (first | refine o_neD (.dat _) (.dat _) rfl rfl ?_ | refine o_neD (.dat _) (.dat _) (by decide +kernel) (by decide +kernel) ?_))
  | ((with_reducible show Op2 _ (rIn _ false) _ _ _ _); refine o_in (.tup _) (by rfl) (by rfl) ?_) | ((with_reducible show Op2 _ (rIn _ true) _ _ _ _); refine o_notIn (.tup _) (by rfl) (by rfl) ?_)
  | ((with_reducible show OpC _ (rIsi _) _ _ _); (first | refine oc_isi (b := true) (by rfl) ?_ | refine oc_isi (b := false) (by rfl) ?_))
  | ((with_reducible show OpC _ _ _ _ _); refine oc_len (.tup _) ?_)
  | ((with_reducible show Tg _ (gTup _ _ _) _ _ _ _); (first | with_reducible refine tg_pair ?_ | refine tg_tup rfl ?_)) | ((with_reducible show Tgs _ (gCons _ _) _ _ _ _); refine tgs_cons ?_) | ((with_reducible show Tgs _ gNil _ _ _ _); refine tgs_nil ?_)
  | ((with_reducible show ∃ ds, alld _ ds ∧ _); (first
    | refine ⟨[_, _, _], ⟨rfl, rfl, rfl, trivial⟩, Nat.le_of_ble_eq_true rfl, ?_⟩ | refine ⟨[_, _], ⟨rfl, rfl, trivial⟩, Nat.le_of_ble_eq_true rfl, ?_⟩ | refine ⟨[_], ⟨rfl, trivial⟩, Nat.le_of_ble_eq_true rfl, ?_⟩ | refine ⟨[], trivial, Nat.le_of_ble_eq_true rfl, ?_⟩
    | refine ⟨[_, _, _, _], ⟨rfl, rfl, rfl, rfl, trivial⟩, Nat.le_of_ble_eq_true rfl, ?_⟩ | refine ⟨[_, _, _, _, _], ⟨rfl, rfl, rfl, rfl, rfl, trivial⟩, Nat.le_of_ble_eq_true rfl, ?_⟩ | refine ⟨[_, _, _, _, _, _], ⟨rfl, rfl, rfl, rfl, rfl, rfl, trivial⟩, Nat.le_of_ble_eq_true rfl, ?_⟩
    | refine ⟨[_, _, _, _, _, _, _], ⟨rfl, rfl, rfl, rfl, rfl, rfl, rfl, trivial⟩, Nat.le_of_ble_eq_true rfl, ?_⟩))
  | ((with_reducible show (_ = true → _) ∧ (_ = false → _)); (first | refine pickT rfl ?_ | refine pickF rfl ?_))
  | ((with_reducible show ∃ _, Kn.dat (PyData.bool _) = Kn.dat (PyData.bool _) ∧ _); refine ⟨_, rfl, ?_⟩)
  | ((with_reducible show ∃ _, Kn.dat _ = Kn.dat _ ∧ _); refine ⟨_, rfl, ?_⟩) | fail))

section
variable {P : Program} {w : World} {K : PySem.W.Frag} {mg : Str → Option Value} {base : Heap} {f : Addr} {fd : FuncData}

/-- behind the first statement, all that is known of the slots is this -/
theorem sx_mid {B : Bs} {t u : TS} {ρ : Sl} {O : Cs} {E : AE} (M : Sl → Cs → Prop) (h1 : Sx B t ρ O { E with nx := M }) (h2 : ∀ ρ' O', M ρ' O' → Sx B u ρ' O' E) : Sx B (tSeq t u) ρ O E :=
  sx_seq (h1.imp h2 (fun _ _ h => h) (fun _ _ h => h) (fun _ _ h => h))
theorem EvA.imp {B : Bs} {ta : TA} {ρ : Sl} {O : Cs} {Λ Λ' : List Kn → Cs → Prop} (h : EvA B ta ρ O Λ) (g : ∀ ks O', Λ ks O' → Λ' ks O') : EvA B ta ρ O Λ' := fun σ H τ F R Q hQ => h σ H τ F R Q fun vs H' ks O' p => hQ vs H' ks O' (g ks O' p)
theorem eqv_lst (a b : Rw) : PyData.eqv (.list (a.map PyData.int)) (.list (b.map PyData.int)) = decide (a = b) := by
  rw [PyData.eqv]
  exact eqv_all_ints a b
def w_ldraw : WT := fun ks O Φ => ∃ (p : Addr) (m : Int), ks = [.ptr p, .dat (.int m)] ∧ 0 < m ∧ m < 1073741824 ∧ O = [(p, .jar)] ∧ ∀ n : Int, 0 ≤ n → n < m → Φ (.dat (.int n)) [(p, .jar)]
theorem cl_law_draw (T : Bt mg) (F : Df K mg "_law_draw" s_law_draw f fd) : Cl P w K mg base "_law_draw" 1 2 w_ldraw := by
  have nd := sc_law_draw.nd
  refine cl_of 0 2 F sc_law_draw rfl (fun _ _ _ _ _ _ us hl => match us, hl with | [_, _], _ => rfl) fun cdv A outer s H E hr => ⟨_, (pss_cons (ps_if (pt_cmpR op_gt (pe_ix (kIx (K := K)) (pv 0) pe_int (fun _ _ => rfl)) pe_int (nomark _)) (pss_cons (ps_asg (pe_callB call_divmod (by rfl) T.divmod_ (by decide +kernel) (pa_cons (pe_ix (kIx (K := K)) (pv 0) pe_int (fun _ _ => rfl)) (pa_cons (pv 1) pa_nil))) (kgTup (K := K) (n := 2) rfl (pgs_cons (pg_sub (pv 0) pe_int set_list) (pgs_cons (pg_name (i := 4) nd rfl (Or.inl rfl)) pgs_nil))))
      (pss_one (ps_ret (pv 4)))) pss_nil)
      (pss_cons (ps_set (i := 2) nd rfl (Or.inl rfl) pe_int)
      (pss_cons (ps_for PassesOwn.never rfl (pi_range1 (by rfl) T.range_ (pa_cons (pe_ifExp (pt_cmpR op_le (pv 1) (pe_op op_pow pe_int pe_int) (nomark _)) pe_int pe_int) pa_nil)) (pg_name (i := 3) nd rfl (Or.inl rfl)) (pss_cons (ps_asg (pe_op op_mod (pe_callTy call_int1 (by rfl) T.int_ (by decide +kernel) (pa_cons (pe_op op_add (pe_op op_mul (pe_ix (kIx (K := K)) (pv 0) pe_int (fun _ _ => rfl)) pe_int) pe_int) pa_nil)) pe_int) (pg_sub (pv 0) pe_int set_list))
      (pss_cons (ps_asg (pe_op op_mod (pe_callTy call_int1 (by rfl) T.int_ (by decide +kernel) (pa_cons (pe_op op_add (pe_op op_mul (pe_ix (kIx (K := K)) (pv 0) pe_int (fun _ _ => rfl)) pe_int) (pe_ix (kIx (K := K)) (pv 0) pe_int (fun _ _ => rfl))) pa_nil)) pe_int) (pg_sub (pv 0) pe_int set_list))
      (pss_one (ps_set (i := 2) nd rfl (Or.inl rfl) (pe_op op_add (pe_op op_mul (pv 2) pe_int) (pe_op op_fdivW (pe_ix (kIx (K := K)) (pv 0) pe_int (fun _ _ => rfl)) pe_int)))))))
      (pss_one (ps_ret (pe_op op_mod (pe_callTy call_int1 (by rfl) T.int_ (by decide +kernel) (pa_cons (pv 2) pa_nil)) (pv 1))))))), ?_⟩
  intro B ks O Φ hl ⟨p, m, e1, hm0, hm1, e2, q⟩
  subst e1 e2
  walk_at "sk"
  refine o_ixJar (by simp) (by decide) fun a => ?_
  walk_at "sk"
  refine ⟨fun h => ?_, fun h => ?_⟩
  · walk_at "sk"
    refine o_ixJar (by simp) (by decide) fun a => ?_
    walk_at "sk"
    refine oc_divmod ⟨hm0, hm1⟩ ?_
    walk_at "sk"
    refine tg_sub ?_
    walk_at "sk"
    refine ⟨p, 0, 0, rfl, rfl, .inr ⟨_, rfl, rfl, by decide, by decide, ?_⟩⟩
    walk_at "sk"
    exact ⟨_, sub_refl _, q _ (Int.emod_nonneg _ (by omega)) (Int.emod_lt_of_pos _ hm0)⟩
  · walk_at "sk"
    refine sx_for (ei_rng1 (EvA.imp (Λ := fun ks O' => (∃ j : Int, ks = [.dat (.int j)] ∧ 1 ≤ j ∧ j ≤ 2) ∧ O' = [(p, .jar)]) ?_ fun ks O' h => ?_))
    · walk_at "sk"
      refine o_pow ⟨by decide, by decide, by decide⟩ ?_
      walk_at "sk"
      refine ⟨fun _ => ?_, fun _ => ?_⟩
      · walk_at "sk"
        exact ⟨⟨1, rfl, by decide, by decide⟩, rfl⟩
      · walk_at "sk"
        exact ⟨⟨2, rfl, by decide, by decide⟩, rfl⟩
    · obtain ⟨⟨j, rfl, h1, h2⟩, rfl⟩ := h
      refine ⟨j, rfl, by omega, by omega, fun i ρ' O' => O' = [(p, .jar)] ∧ ∃ (fd : Int) (y : Option Kn), ρ' = [some (.ptr p), some (.dat (.int m)), some (.dat (.int fd)), y, none], ⟨rfl, _, _, rfl⟩, (fun _ _ _ _ _ q hq => nomatch hq), fun i k ρ' O' hk hI => ?_, fun ρ' O' hI => ?_⟩
      · obtain ⟨rfl, fd, y, rfl⟩ := hI
        refine tg_name ?_
        walk_at "sk"
        refine o_ixJar (by simp) (by decide) fun a => ?_
        walk_at "sk"
        · exact .inr ⟨by decide, by decide⟩
        refine oc_intI ?_
        walk_at "sk"
        refine o_mod (by decide) ?_
        walk_at "sk"
        refine tg_sub ?_
        walk_at "sk"
        refine ⟨p, 1, 0, rfl, rfl, .inr ⟨_, rfl, rfl, by decide, by decide, ?_⟩⟩
        walk_at "sk"
        refine o_ixJar (by simp) (by decide) fun a => ?_
        walk_at "sk"
        · exact .inr ⟨by decide, by decide⟩
        refine o_ixJar (by simp) (by decide) fun a => ?_
        walk_at "sk"
        refine oc_intI ?_
        walk_at "sk"
        refine o_mod (by decide) ?_
        walk_at "sk"
        refine tg_sub ?_
        walk_at "sk"
        refine ⟨p, 2, 0, rfl, rfl, .inr ⟨_, rfl, rfl, by decide, by decide, ?_⟩⟩
        walk_at "sk"
        · exact .inr ⟨by decide, by decide⟩
        refine o_ixJar (by simp) (by decide) fun a => ?_
        walk_at "sk"
        refine o_fdivW ⟨by decide, by decide +kernel⟩ ?_
        walk_at "sk"
        exact ⟨_, sub_refl _, rfl, _, _, rfl⟩
      · obtain ⟨rfl, fd, y, rfl⟩ := hI
        walk_at "sk"
        refine oc_intI ?_
        walk_at "sk"
        refine o_mod hm0 ?_
        exact ⟨_, sub_refl _, q _ (Int.emod_nonneg _ (by omega)) (Int.emod_lt_of_pos _ hm0)⟩

def w_lone : WT := fun ks O Φ => ∃ (p x : Addr) (ds : List PyData), ks = [.ptr p, .ptr x] ∧ 0 < ds.length ∧ ds.length < 1000 ∧ O = [(p, .jar), (x, .lst ds)] ∧ ∀ d ∈ ds, Φ (.dat d) [(p, .jar), (x, .lst ds)]
theorem cl_law_one (T : Bt mg) (F : Df K mg "_law_one" s_law_one f fd) (C_law_draw : Cl P w K mg base "_law_draw" 1 2 w_ldraw) : Cl P w K mg base "_law_one" 2 2 w_lone := by
  have nd := sc_law_one.nd
  refine cl_of 1 2 F sc_law_one rfl (fun _ _ _ _ _ _ us hl => match us, hl with | [_, _], _ => rfl) fun cdv A outer s H E hr => ⟨_, (pss_one (ps_ret (pe_ix (kIx (K := K)) (pv 1) (pe_cl C_law_draw (hr.mono (by decide)) (by rfl) (pa_cons (pv 0) (pa_cons (pe_callB (kLen (K := K)) (by rfl) T.len_ (by decide +kernel) (pa_cons (pv 1) pa_nil)) pa_nil))) (fun _ _ => rfl)))), ?_⟩
  intro B ks O Φ hl ⟨p, x, ds, e1, h0, h1, e2, q⟩
  subst e1 e2
  walk_at "sk"
  refine oc_len (ds := ds) (.lst (by simp)) ?_
  walk_at "sk"
  refine ⟨rfl, [(p, .jar)], _, .refl _, p, _, rfl, by omega, by omega, rfl, fun n hn0 hn1 => ?_⟩
  obtain ⟨i, rfl⟩ : ∃ i : Nat, n = (i : Int) := ⟨n.toNat, by omega⟩
  have hi : i < ds.length := by omega
  refine o_ix (.lst (ds := ds) (by simp)) (atI_nat (List.getElem?_eq_getElem hi)) ?_
  exact ⟨_, sub_refl _, q _ (List.getElem_mem hi)⟩

def V3.In (h : Int) (v : V3) : Prop := (-h ≤ v.x ∧ v.x ≤ h) ∧ (-h ≤ v.y ∧ v.y ≤ h) ∧ (-h ≤ v.z ∧ v.z ≤ h)
def w_ltriple : WT := fun ks O Φ => ∃ (p : Addr) (h : Int), ks = [.ptr p, .dat (.int h)] ∧ 1 ≤ h ∧ h ≤ 999 ∧ O = [(p, .jar)] ∧ ∀ v : V3, v.nz → v.In h → Φ (.dat v.d) [(p, .jar)]
theorem cl_law_triple (T : Bt mg) (F : Df K mg "_law_triple" s_law_triple f fd) (C_law_draw : Cl P w K mg base "_law_draw" 1 2 w_ldraw) : Cl P w K mg base "_law_triple" 2 2 w_ltriple := by
  have nd := sc_law_triple.nd
  refine cl_of 1 2 F sc_law_triple rfl (fun _ _ _ _ _ _ us hl => match us, hl with | [_, _], _ => rfl) fun cdv A outer s H E hr => ⟨_, (pss_cons (ps_setLc (i := 2) (own := [("_law_step", 3)]) (g := gName 3) (by rfl) nd rfl rfl (sw_true rfl rfl rfl (by decide +kernel)) (pi_range1 (by rfl) T.range_ (pa_cons pe_int pa_nil)) (blkOk_by (own := [("_law_step", 3)]) (N := N_law_triple) (sc := defScope s_law_triple) (by decide +kernel)) (fun _ _ _ _ _ => (pg_name (i := 3) nd rfl (Or.inl rfl))) (fun _ _ _ _ _ => pts_nil) (fun _ _ _ _ _ => (pe_op op_sub (pe_cl C_law_draw (hr.mono (by decide)) (by rfl) (pa_cons (pv 0) (pa_cons (pe_op op_add (pe_op op_mul pe_int (pv 1)) pe_int) pa_nil))) (pv 1))))
      (pss_cons (ps_if (pt_cmpR (kEqD (K := K) hr.units) (pv 2) (pe_lst (pa_cons pe_int (pa_cons pe_int (pa_cons pe_int pa_nil)))) (nomark _)) (pss_one (ps_asg (pe_op op_sub pe_int (pe_op op_mul pe_int (pe_cl C_law_draw (hr.mono (by decide)) (by rfl) (pa_cons (pv 0) (pa_cons pe_int pa_nil))))) (pg_sub (pv 2) (pe_cl C_law_draw (hr.mono (by decide)) (by rfl) (pa_cons (pv 0) (pa_cons pe_int pa_nil))) set_list))) pss_nil)
      (pss_one (ps_ret (pe_callTy (kTupleOf (K := K)) (by rfl) T.tuple_ (by decide +kernel) (pa_cons (pv 2) pa_nil)))))), ?_⟩
  intro B ks O Φ hl ⟨p, h, e1, h0, h1, e2, q⟩
  subst e1 e2
  walk_at "sk"
  refine ev_lc (ei_rng1 ?_) (own_name (by decide))
  walk_at "sk"
  refine ⟨3, rfl, by decide, by decide, fun i acc O' => O' = [(p, .jar)] ∧ ∃ ns : List Int, acc = ns.map PyData.int ∧ ns.length = i ∧ ∀ n ∈ ns, -h ≤ n ∧ n ≤ h, ⟨rfl, [], rfl, rfl, by simp⟩, fun i acc O' hi hI => ?_, fun i k acc O' hk hI => ?_, fun acc O' hI l => ?_⟩
  · obtain ⟨rfl, ns, rfl, hn, _⟩ := hI
    refine ⟨?_, fun q hq => nomatch hq⟩
    rw [List.length_map]
    have : i ≤ 3 := hi
    omega
  · obtain ⟨rfl, ns, rfl, hn, hb⟩ := hI
    refine tg_name (et_yes ⟨fun _ => ?_, fun e => nomatch e⟩)
    walk_at "sk"
    · exact .inl ⟨by decide, by decide⟩
    refine ⟨rfl, [(p, .jar)], [], .refl _, p, _, rfl, by omega, by omega, rfl, fun n hn0 hn1 => ?_⟩
    walk_at "sk"
    refine ⟨_, [(p, .jar)], rfl, sub_refl _, rfl, ns ++ [n - h], by rw [List.map_append]; rfl, by rw [List.length_append, hn]; rfl, fun z hz => ?_⟩
    rcases List.mem_append.mp hz with hz | hz
    · exact hb z hz
    · rw [List.mem_singleton.mp hz]
      omega
  · obtain ⟨rfl, ns, rfl, hn, hb⟩ := hI
    have hn : ns.length = 3 := hn
    match ns, hn with
    | [a, b, c], _ =>
      have ha := hb a (by simp)
      have hb' := hb b (by simp)
      have hc := hb c (by simp)
      walk_at "sk"
      refine ev_lst ?_
      walk_at "sk"
      intro e
      refine o_eqD (.lst (List.mem_cons_of_mem _ (List.mem_cons_self ..))) (.lst (List.mem_cons_self ..)) shaped_ints (by decide +kernel) ?_
      rw [show PyData.eqv (.list ([a, b, c].map PyData.int)) (.list [.int 0, .int 0, .int 0]) = decide ([a, b, c] = [0, 0, 0]) from eqv_lst [a, b, c] [0, 0, 0]]
      refine ⟨_, rfl, fun hz => ?_, fun hz => ?_⟩
      · have hz := of_decide_eq_true hz
        simp only [List.cons.injEq, and_true] at hz
        obtain ⟨rfl, rfl, rfl⟩ := hz
        refine Sx.less (O' := [(p, .jar), (l, .lst ([0, 0, 0].map PyData.int))]) ?_ ⟨[(e, .lst [.int 0, .int 0, .int 0])], (List.reverse_perm [_, _, _]).symm⟩
        walk_at "sk"
        refine ⟨rfl, [(p, .jar)], [(l, .lst ([0, 0, 0].map PyData.int))], .refl _, p, _, rfl, by decide, by decide, rfl, fun s hs0 hs1 => ?_⟩
        walk_at "sk"
        · exact .inl ⟨by decide, by decide⟩
        refine tg_sub ?_
        walk_at "sk"
        refine ⟨rfl, [(p, .jar)], [(l, .lst ([0, 0, 0].map PyData.int))], .refl _, p, _, rfl, by decide, by decide, rfl, fun n hn0 hn1 => ?_⟩
        have fin : ∀ v : V3, v.nz → v.In h → Sx B (tRet (tCB (fun xs H Q => ∃ p ys, xs = [V.ref p] ∧ ((SqL K H p ys ∧ ∀ l, H l = none → Q (V.ref l) (upd H l (.tup ys))) ∨ (SqT K H p ys ∧ Q (V.ref p) H))) (tCons (tVar 2) tNil))) [some (.ptr p), some (.dat (.int h)), some (.ptr l), none] [(p, .jar), (l, .lst (v.l.map PyData.int))] (endsOf Φ) := fun v hv hvh => by
          walk_at "sk"
          refine oc_tuple (ds := v.l.map PyData.int) (.lst (by simp)) (by show 3 ≤ 100000; decide) ?_
          exact ⟨[(p, .jar)], sub_keep (sub_nil _), q v hv hvh⟩
        have hs : (1 - 2 * s = 1 ∨ 1 - 2 * s = -1) := by omega
        obtain ⟨z, hz⟩ : ∃ z, 1 - 2 * s = z := ⟨_, rfl⟩
        rw [hz] at hs ⊢
        have hn3 : n = 0 ∨ n = 1 ∨ n = 2 := by omega
        rcases hn3 with rfl | rfl | rfl
        · exact ⟨l, 0, 1, rfl, rfl, .inl ⟨_, 0, rfl, rfl, fin ⟨z, 0, 0⟩ (fun e => by have := e.1; simp only at this; omega) ⟨by simp only; omega, by simp only; omega, by simp only; omega⟩⟩⟩
        · exact ⟨l, 1, 1, rfl, rfl, .inl ⟨_, 1, rfl, rfl, fin ⟨0, z, 0⟩ (fun e => by have := e.2.1; simp only at this; omega) ⟨by simp only; omega, by simp only; omega, by simp only; omega⟩⟩⟩
        · exact ⟨l, 2, 1, rfl, rfl, .inl ⟨_, 2, rfl, rfl, fin ⟨0, 0, z⟩ (fun e => by have := e.2.2; simp only at this; omega) ⟨by simp only; omega, by simp only; omega, by simp only; omega⟩⟩⟩
      · have hz := of_decide_eq_false hz
        have hv : (⟨a, b, c⟩ : V3).nz := fun z => hz (by obtain ⟨x1, x2, x3⟩ := z; simp only at x1 x2 x3; rw [x1, x2, x3])
        walk_at "sk"
        refine oc_tuple (ds := [.int a, .int b, .int c]) (.lst (by simp)) (by show 3 ≤ 100000; decide) ?_
        exact ⟨[(p, .jar)], sub_cons (sub_cons (sub_refl _)), q ⟨a, b, c⟩ hv ⟨ha, hb', hc⟩⟩

def w_lnormal : WT := fun ks O Φ => ∃ (p : Addr) (v : V3), ks = [.ptr p, .dat v.d] ∧ v.Bd 12 ∧ O = [(p, .jar)] ∧ ∀ c : Int, c ≠ 0 → c.natAbs ≤ 3 → Φ (.dat (V3.sc c v).d) [(p, .jar)]
theorem cl_law_normal (T : Bt mg) (F : Df K mg "_law_normal" s_law_normal f fd) (C_law_by : Cl P w K mg base "_law_by" 1 2 w_lby) (C_law_one : Cl P w K mg base "_law_one" 2 2 w_lone) : Cl P w K mg base "_law_normal" 3 2 w_lnormal := by
  have nd := sc_law_normal.nd
  refine cl_of 2 2 F sc_law_normal rfl (fun _ _ _ _ _ _ us hl => match us, hl with | [_, _], _ => rfl) fun cdv A outer s H E hr => ⟨_, (pss_cons (ps_setLc (i := 2) (own := [("_law_number", 3)]) (g := gName 3) (by rfl) nd rfl rfl (sw_true rfl rfl rfl (by decide +kernel)) (kTup (K := K) (pv 1)) (blkOk_by (own := [("_law_number", 3)]) (N := N_law_normal) (sc := defScope s_law_normal) (by decide +kernel)) (fun _ _ _ _ _ => (pg_name (i := 3) nd rfl (Or.inl rfl))) (fun _ _ _ _ _ => (pts_one (pt_cmpR op_gt (pe_callB call_abs (by rfl) T.abs_ (by decide +kernel) (pa_cons (pv 3) pa_nil)) (pe_op op_pow pe_int pe_int) (nomark _)))) (fun _ _ _ _ _ => (pv 3)))
      (pss_one (ps_ret (pe_cl C_law_by (hr.mono (by decide)) (by rfl) (pa_cons (pv 1) (pa_cons (pe_cl C_law_one (hr.mono (by decide)) (by rfl) (pa_cons (pv 0) (pa_cons (pe_ifExp (pt_cmpR (kEqD (K := K) hr.units) (pv 2) (pe_lst pa_nil) (nomark _)) (pe_lst (pa_cons pe_int (pa_cons (pe_un un_neg pe_int) (pa_cons pe_int (pa_cons (pe_un un_neg pe_int) pa_nil))))) (pe_lst (pa_cons pe_int (pa_cons (pe_un un_neg pe_int) pa_nil)))) pa_nil))) pa_nil)))))), ?_⟩
  intro B ks O Φ hl ⟨p, v, e1, hb, e2, q⟩
  subst e1 e2
  walk_at "sk"
  refine ev_lcF (ei_tup ?_) (own_name (by decide))
  walk_at "sk"
  refine ⟨Int, v.l, fun n => .dat (.int n), fun n => none, rfl, by simp, (fun q hq => nomatch hq), fun n hn => ?_, fun l => ?_⟩
  · refine tg_name ?_
    have hnb := bd_mem hb n hn
    walk_at "sk"
    refine oc_abs ?_
    walk_at "sk"
    refine o_pow ⟨by decide, by decide, by decide⟩ ?_
    walk_at "sk"
    refine pickF (decide_eq_false ?_) ⟨rfl, sub_refl _⟩
    rw [show (10 : Int) ^ (11 : Int).toNat = 100000000000 by decide]
    split <;> omega
  · rw [show (v.l.filterMap fun _ => (none : Option PyData)) = [] from rfl]
    walk_at "sk"
    refine ev_lst ?_
    walk_at "sk"
    intro e
    refine o_eqD (.lst (List.mem_cons_of_mem _ (List.mem_cons_self ..))) (.lst (List.mem_cons_self ..)) (by decide +kernel) (by decide +kernel) ?_
    rw [eqv_nil]
    walk_at "sk"
    refine ev_lst ?_
    walk_at "sk"
    intro g
    walk_at "sk"
    refine ⟨rfl, [(p, .jar), (g, .lst [.int 1, .int (-1), .int 2, .int (-3)])], [(e, .lst []), (l, .lst [])], ?_, p, g, _, rfl, by decide, by decide, rfl, fun d hd => ?_⟩
    · exact (List.perm_middle (l₁ := [_, _, _]) (l₂ := [])).trans (.refl _)
    · have fin : ∀ c : Int, c ≠ 0 → c.natAbs ≤ 3 → d = .int c → ∃ c : Int, d = .int c ∧ c ≠ 0 ∧ c.natAbs ≤ 3 := fun c h1 h2 h3 => ⟨c, h3, h1, h2⟩
      have hd2 : ∃ c : Int, d = .int c ∧ c ≠ 0 ∧ c.natAbs ≤ 3 := by
        simp only [List.mem_cons, List.not_mem_nil, or_false] at hd
        rcases hd with rfl | rfl | rfl | rfl
        · exact ⟨1, rfl, by decide, by decide⟩
        · exact ⟨-1, rfl, by decide, by decide⟩
        · exact ⟨2, rfl, by decide, by decide⟩
        · exact ⟨-3, rfl, by decide, by decide⟩
      obtain ⟨c, rfl, hc0, hc3⟩ := hd2
      walk_at "sk"
      refine ⟨rfl, callK0 ⟨v, c, rfl, by omega, rfl, ?_⟩⟩
      exact ⟨[(p, .jar)], sub_keep (sub_nil _), q c hc0 hc3⟩

/-- a drawn tree -/
structure Drawn (R : List V3) (n m : Nat) (t : Tr) : Prop where
  fit : t.fit
  on : t.on R
  dep : t.dep ≤ n
  few : t.leaves.length ≤ m
theorem Drawn.mono {R : List V3} {n n' m m' : Nat} {t : Tr} (h : Drawn R n m t) (hn : n ≤ n') (hm : m ≤ m') : Drawn R n' m' t := ⟨h.fit, h.on, Nat.le_trans h.dep hn, Nat.le_trans h.few hm⟩
theorem Drawn.all {R : List V3} : Drawn R 1 1 .all := ⟨trivial, fun v hv => by simp [Tr.leaves] at hv, by decide, by decide⟩
theorem Drawn.leaf {R : List V3} (hR : Pl R) {r : V3} (hr : r ∈ R) (s : Bool) {c : Int} (h0 : c ≠ 0) (h3 : c.natAbs ≤ 3) : Drawn R 1 1 (.leaf s (V3.sc c r)) := by
  obtain ⟨b1, b2, b3⟩ := hR.bd r hr
  have mul : ∀ {n : Int}, n.natAbs < 2 ^ 12 → (c * n).natAbs < 2 ^ 14 := fun {n} hn => by
    rw [Int.natAbs_mul]
    have := Nat.mul_le_mul h3 (Nat.le_of_lt_succ (show n.natAbs < 4095 + 1 from hn))
    omega
  refine ⟨?_, fun v hv => ?_, by simp [Tr.dep], by simp [Tr.leaves]⟩
  · rw [Tr.fit]
    exact ⟨V3.sc_nz (hR.nm r hr).pr.nz h0, mul b1, mul b2, mul b3⟩
  · simp only [Tr.leaves, List.mem_singleton] at hv
    exact ⟨r, hr, c, h0, hv⟩
def w_lleaf : WT := fun ks O Φ => ∃ (p x : Addr) (R : List V3), ks = [.ptr p, .ptr x] ∧ Pl R ∧ R ≠ [] ∧ O = [(p, .jar), (x, .lst (R.map V3.d))] ∧ ∀ t, Drawn R 1 1 t → Φ (.dat t.d) [(p, .jar), (x, .lst (R.map V3.d))]
theorem cl_law_leaf (T : Bt mg) (F : Df K mg "_law_leaf" s_law_leaf f fd) (C_law_draw : Cl P w K mg base "_law_draw" 1 2 w_ldraw) (C_law_one : Cl P w K mg base "_law_one" 2 2 w_lone) (C_law_normal : Cl P w K mg base "_law_normal" 3 2 w_lnormal) : Cl P w K mg base "_law_leaf" 4 2 w_lleaf := by
  have nd := sc_law_leaf.nd
  refine cl_of 3 2 F sc_law_leaf rfl (fun _ _ _ _ _ _ us hl => match us, hl with | [_, _], _ => rfl) fun cdv A outer s H E hr => ⟨_, (pss_cons (ps_if (pt_cmpR (kEqD (K := K) hr.units) (pe_cl C_law_draw (hr.mono (by decide)) (by rfl) (pa_cons (pv 0) (pa_cons pe_int pa_nil))) pe_int (nomark _)) (pss_one (ps_ret (pe_tup (pa_cons pe_str pa_nil)))) pss_nil)
      (pss_cons (ps_set (i := 2) nd rfl (Or.inl rfl) (pe_cl C_law_one (hr.mono (by decide)) (by rfl) (pa_cons (pv 0) (pa_cons (pe_lst (pa_cons pe_str (pa_cons pe_str (pa_cons pe_str (pa_cons pe_str pa_nil))))) pa_nil))))
      (pss_one (ps_ret (pe_tup (pa_cons (pv 2) (pa_cons (pe_cl C_law_normal (hr.mono (by decide)) (by rfl) (pa_cons (pv 0) (pa_cons (pe_cl C_law_one (hr.mono (by decide)) (by rfl) (pa_cons (pv 0) (pa_cons (pv 1) pa_nil))) pa_nil))) pa_nil))))))), ?_⟩
  intro B ks O Φ hl ⟨p, x, R, e1, hR, hne, e2, q⟩
  subst e1 e2
  have h5 := hR.le
  have hR0 : 0 < (R.map V3.d).length := by rw [List.length_map]; exact List.length_pos_iff.mpr hne
  have hR5 : (R.map V3.d).length < 1000 := by rw [List.length_map]; omega
  walk_at "sk"
  refine ⟨rfl, [(p, .jar)], [(x, .lst (R.map V3.d))], .refl _, p, _, rfl, by decide, by decide, rfl, fun n hn0 hn1 => ?_⟩
  walk_at "sk"
  rw [eqv_int]
  refine ⟨fun h => ?_, fun h => ?_⟩
  · walk_at "sk"
    exact ⟨_, sub_refl _, q .all .all⟩
  · walk_at "sk"
    refine ev_lst ?_
    walk_at "sk"
    intro g
    walk_at "sk"
    refine ⟨rfl, [(p, .jar), (g, .lst [.str "side", .str "side", .str "side", .str "rim"])], [(x, .lst (R.map V3.d))], .swap .., p, g, _, rfl, by decide, by decide, rfl, fun d hd => ?_⟩
    have hd2 : ∃ s : Bool, d = .str (if s then "side" else "rim") := by
      simp only [List.mem_cons, List.not_mem_nil, or_false] at hd
      rcases hd with rfl | rfl | rfl | rfl
      · exact ⟨true, rfl⟩
      · exact ⟨true, rfl⟩
      · exact ⟨true, rfl⟩
      · exact ⟨false, rfl⟩
    obtain ⟨s, rfl⟩ := hd2
    walk_at "sk"
    refine ⟨rfl, [(p, .jar), (x, .lst (R.map V3.d))], [(g, .lst [.str "side", .str "side", .str "side", .str "rim"])], (List.Perm.swap ..).cons _, p, x, _, rfl, hR0, hR5, rfl, fun d hd => ?_⟩
    obtain ⟨r, hr, rfl⟩ := List.mem_map.mp hd
    walk_at "sk"
    refine ⟨rfl, [(p, .jar)], [(x, .lst (R.map V3.d)), (g, .lst [.str "side", .str "side", .str "side", .str "rim"])], .refl _, p, r, rfl, hR.bd r hr, rfl, fun c hc0 hc3 => ?_⟩
    walk_at "sk"
    refine ⟨[(p, .jar), (x, .lst (R.map V3.d))], sub_keep (sub_keep (sub_nil _)), ?_⟩
    have := q _ (Drawn.leaf hR hr s hc0 hc3)
    cases s
    · exact this
    · exact this
end
end Sk


/-! La10: the law's trees and skies -/
namespace Sk
open PySem PySem.Spec PyProof.Rows L2
local macro_rules | `(tactic| walk_at "sk") => `(tactic| repeat' (first
  | ((with_reducible show Ev _ (tVar _) _ _ _); refine ev_var rfl ?_) | with_reducible refine ev_int ?_ | with_reducible refine ev_bl ?_ | with_reducible refine ev_non ?_ | with_reducible refine ev_str ?_ | with_reducible refine ev_ty ?_ | with_reducible refine ev_ref ?_
  | with_reducible refine ev_op ?_ | with_reducible refine ev_un ?_ | with_reducible refine ev_cb ?_ | with_reducible refine ea_cons ?_ | with_reducible refine ea_nil ?_
  | with_reducible refine ev_if ?_ | with_reducible refine ev_and ?_ | with_reducible refine ev_or ?_ | with_reducible refine ev_not ?_ | with_reducible refine ev_tup ?_ | with_reducible refine ev_call ?_
  | with_reducible refine sx_seq ?_ | with_reducible refine sx_asg ?_ | with_reducible refine tg_name ?_ | with_reducible refine sx_ret ?_ | with_reducible refine sx_next ?_ | with_reducible refine sx_drop ?_ | with_reducible refine sx_if ?_
  | with_reducible refine et_chain ?_ | with_reducible refine et_test ?_ | with_reducible refine et_B ?_ | with_reducible refine et_not ?_ | with_reducible refine et_and ?_ | with_reducible refine et_or ?_
  | with_reducible refine o_add ?_ | with_reducible refine o_sub ?_ | with_reducible refine o_lt ?_ | with_reducible refine o_le ?_ | with_reducible refine o_gt ?_ | with_reducible refine o_ge ?_
  | with_reducible refine o_neg ?_ | with_reducible refine o_subB ?_ | with_reducible refine o_mul ?_ ?_
  | ((with_reducible show Op2 _ (rIx _) _ _ _ _); refine o_ix (.tup _) rfl ?_)
  | ((with_reducible show Op2 _ (rEqD _) _ _ _ _); (first | refine o_eqD (.dat _) (.dat _) rfl rfl ?_ | refine o_eqD (.dat _) (.dat _) (by decide +kernel) (by decide +kernel) ?_))
  | ((with_reducible show Op2 _ (rNeD _) _ _ _ _); (first | refine o_neD (.dat _) (.dat _) rfl rfl ?_ | refine o_neD (.dat _) (.dat _) (by decide +kernel) (by decide +kernel) ?_))
  | ((with_reducible show Op2 _ (rIn _ false) _ _ _ _); refine o_in (.tup _) (by rfl) (by rfl) ?_) | ((with_reducible show Op2 _ (rIn _ true) _ _ _ _); refine o_notIn (.tup _) (by rfl) (by rfl) ?_)
  | ((with_reducible show OpC _ (rIsi _) _ _ _); (first | refine oc_isi (b := true) (by rfl) ?_ | refine oc_isi (b := false) (by rfl) ?_))
  | ((with_reducible show OpC _ _ _ _ _); refine oc_len (.tup _) ?_)
  | ((with_reducible show Tg _ (gTup _ _ _) _ _ _ _); (first | with_reducible refine tg_pair ?_ | refine tg_tup rfl ?_)) | ((with_reducible show Tgs _ (gCons _ _) _ _ _ _); refine tgs_cons ?_) | ((with_reducible show Tgs _ gNil _ _ _ _); refine tgs_nil ?_)
  | ((with_reducible show ∃ ds, alld _ ds ∧ _); (first
    | refine ⟨[_, _, _], ⟨rfl, rfl, rfl, trivial⟩, Nat.le_of_ble_eq_true rfl, ?_⟩ | refine ⟨[_, _], ⟨rfl, rfl, trivial⟩, Nat.le_of_ble_eq_true rfl, ?_⟩ | refine ⟨[_], ⟨rfl, trivial⟩, Nat.le_of_ble_eq_true rfl, ?_⟩ | refine ⟨[], trivial, Nat.le_of_ble_eq_true rfl, ?_⟩
    | refine ⟨[_, _, _, _], ⟨rfl, rfl, rfl, rfl, trivial⟩, Nat.le_of_ble_eq_true rfl, ?_⟩ | refine ⟨[_, _, _, _, _], ⟨rfl, rfl, rfl, rfl, rfl, trivial⟩, Nat.le_of_ble_eq_true rfl, ?_⟩ | refine ⟨[_, _, _, _, _, _], ⟨rfl, rfl, rfl, rfl, rfl, rfl, trivial⟩, Nat.le_of_ble_eq_true rfl, ?_⟩
    | refine ⟨[_, _, _, _, _, _, _], ⟨rfl, rfl, rfl, rfl, rfl, rfl, rfl, trivial⟩, Nat.le_of_ble_eq_true rfl, ?_⟩))
  | ((with_reducible show (_ = true → _) ∧ (_ = false → _)); (first | refine pickT rfl ?_ | refine pickF rfl ?_))
  | ((with_reducible show ∃ _, Kn.dat (PyData.bool _) = Kn.dat (PyData.bool _) ∧ _); refine ⟨_, rfl, ?_⟩)
  | ((with_reducible show ∃ _, Kn.dat _ = Kn.dat _ ∧ _); refine ⟨_, rfl, ?_⟩) | fail))

section
variable {P : Program} {w : World} {K : PySem.W.Frag} {mg : Str → Option Value} {base : Heap} {f : Addr} {fd : FuncData}

theorem Drawn.not {R : List V3} {n m : Nat} {t : Tr} (h : Drawn R n m t) : Drawn R (n + 1) m (.not t) := ⟨by rw [Tr.fit]; exact h.fit, fun v hv => h.on v (by rw [Tr.leaves] at hv; exact hv), by rw [Tr.dep]; have := h.dep; omega, by rw [Tr.leaves]; exact h.few⟩
theorem leavesL_le {m : Nat} : ∀ {ts : List Tr}, (∀ t ∈ ts, t.leaves.length ≤ m) → (Tr.leavesL ts).length ≤ m * ts.length
  | [], _ => by simp [Tr.leavesL]
  | t :: ts, h => by
    have h1 := h t (List.mem_cons_self ..)
    have h2 := leavesL_le (ts := ts) fun u hu => h u (List.mem_cons_of_mem _ hu)
    rw [Tr.leavesL, List.length_append, List.length_cons, Nat.mul_succ]
    omega
theorem Drawn.grp {R : List V3} {n m k : Nat} {ts : List Tr} (a : Bool) (h : ∀ t ∈ ts, Drawn R n m t) (h0 : 1 ≤ ts.length) (hk : ts.length ≤ k) (h8 : k ≤ 8) : Drawn R (n + 1) (m * k) (.grp a ts) := by
  refine ⟨?_, fun v hv => ?_, ?_, ?_⟩
  · rw [Tr.fit]
    exact ⟨h0, by omega, Tr.fitL_all.mpr fun t ht => (h t ht).fit⟩
  · rw [Tr.leaves, Tr.leavesL_flat] at hv
    obtain ⟨t, ht, hv⟩ := List.mem_flatMap.mp hv
    exact (h t ht).on v hv
  · rw [Tr.dep]
    have := (Tr.depL_le (ts := ts) (n := n)).mpr fun t ht => (h t ht).dep
    omega
  · rw [Tr.leaves]
    exact Nat.le_trans (leavesL_le fun t ht => (h t ht).few) (Nat.mul_le_mul_left _ hk)
def w_ltree (n : Nat) : WT := fun ks O Φ => ∃ (p x : Addr) (R : List V3) (m : Nat), ks = [.ptr p, .ptr x, .dat (.int (m : Int))] ∧ 1 ≤ m ∧ m ≤ n ∧ Pl R ∧ R ≠ [] ∧ O = [(p, .jar), (x, .lst (R.map V3.d))] ∧ ∀ t, Drawn R m (3 ^ (m - 1)) t → Φ (.dat t.d) [(p, .jar), (x, .lst (R.map V3.d))]
theorem cl_law_tree (T : Bt mg) (F : Df K mg "_law_tree" s_law_tree f fd) (C_law_draw : Cl P w K mg base "_law_draw" 1 2 w_ldraw) (C_law_one : Cl P w K mg base "_law_one" 2 2 w_lone) (C_law_leaf : Cl P w K mg base "_law_leaf" 4 2 w_lleaf) : ∀ n, Cl P w K mg base "_law_tree" (5 + n) 3 (w_ltree n)
  | 0 => cl_none F (ps := ["_law_jar_here", "_law_rims_here", "_law_deep"]) (fun _ _ _ _ _ _ us hl => match us, hl with | [_, _, _], _ => rfl) fun ks O Φ ⟨p, x, R, m, _, h1, h2, _⟩ => by omega
  | n + 1 => by
    have C_law_tree := cl_law_tree T F C_law_draw C_law_one C_law_leaf n
    show Cl P w K mg base "_law_tree" (5 + n + 1) 3 (w_ltree (n + 1))
    have nd := sc_law_tree.nd
    refine cl_of (5+n) 3 F sc_law_tree rfl (fun _ _ _ _ _ _ us hl => match us, hl with | [_, _, _], _ => rfl) fun cdv A outer s H E hr => ⟨_, (pss_cons (ps_set (i := 3) nd rfl (Or.inl rfl) (pe_cl C_law_draw (hr.mono (by omega)) (by rfl) (pa_cons (pv 0) (pa_cons pe_int pa_nil))))
      (pss_cons (ps_if (PW.pt (pw_or (pt_cmpR op_lt (pv 2) pe_int (nomark _)) (pw_or1 (pt_cmpR (kEqD (K := K) hr.units) (pv 3) pe_int (nomark _))))) (pss_one (ps_ret (pe_cl C_law_leaf (hr.mono (by omega)) (by rfl) (pa_cons (pv 0) (pa_cons (pv 1) pa_nil))))) pss_nil)
      (pss_cons (ps_if (pt_cmpR (kEqD (K := K) hr.units) (pv 3) pe_int (nomark _)) (pss_one (ps_ret (pe_tup (pa_cons pe_str (pa_cons (pe_cl C_law_tree (hr.mono (by omega)) (by rfl) (pa_cons (pv 0) (pa_cons (pv 1) (pa_cons (pe_op op_sub (pv 2) pe_int) pa_nil)))) pa_nil))))) pss_nil)
      (pss_cons (ps_set (i := 4) nd rfl (Or.inl rfl) (pe_cl C_law_one (hr.mono (by omega)) (by rfl) (pa_cons (pv 0) (pa_cons (pe_lst (pa_cons pe_int (pa_cons pe_int (pa_cons pe_int (pa_cons pe_int pa_nil))))) pa_nil))))
      (pss_one (ps_ret (pe_tup (pa_cons (pe_ifExp (pt_cmpR op_lt (pv 3) pe_int (nomark _)) pe_str pe_str) (pa_cons (pe_callTy (kTupleOf (K := K)) (by rfl) T.tuple_ (by decide +kernel) (pa_cons (pe_lc (own := [("_law_step", 5)]) (g := gName 5) (by rfl) nd (pi_range1 (by rfl) T.range_ (pa_cons (pv 4) pa_nil)) (blkOk_by (own := [("_law_step", 5)]) (N := N_law_tree) (sc := defScope s_law_tree) (by decide +kernel)) (fun _ _ _ _ _ => (pg_name (i := 5) nd rfl (Or.inl rfl))) (fun _ _ _ _ _ => pts_nil) (fun _ _ _ _ _ => (pe_cl C_law_tree (hr.mono (by omega)) (by rfl) (pa_cons (pv 0) (pa_cons (pv 1) (pa_cons (pe_op op_sub (pv 2) pe_int) pa_nil)))))) pa_nil)) pa_nil))))))))), ?_⟩
    intro B ks O Φ hl ⟨p, x, R, m, e1, hm1, hmn, hR, hne, e2, q⟩
    subst e1 e2
    have h5 := hR.le
    have hp1 : 1 ≤ 3 ^ (m - 1) := Nat.pow_pos (by decide)
    walk_at "sk"
    refine ⟨rfl, [(p, .jar)], [(x, .lst (R.map V3.d))], .refl _, p, _, rfl, by decide, by decide, rfl, fun way hw0 hw1 => ?_⟩
    walk_at "sk"
    have leaf : ∀ ρ E, E.rt = (endsOf Φ).rt → ρ[0]? = some (some (Kn.ptr p)) → ρ[1]? = some (some (Kn.ptr x)) → Sx B (tRet (tCall (spW 2 w_lleaf) [] E0 (tCons (tVar 0) (tCons (tVar 1) tNil)))) ρ ([(p, .jar)] ++ [(x, .lst (R.map V3.d))]) E := fun ρ E hE h0 h1 => by
      refine sx_ret (ev_call (ea_cons (ev_var h0 (ea_cons (ev_var h1 (ea_nil ?_))))))
      refine ⟨rfl, [(p, .jar), (x, .lst (R.map V3.d))], [], .refl _, p, x, R, rfl, hR, hne, rfl, fun t ht => ?_⟩
      rw [hE]
      exact ⟨_, sub_refl _, q t (ht.mono hm1 hp1)⟩
    refine ⟨fun _ => ?_, fun h => ?_⟩
    · exact pickT rfl (leaf _ _ rfl rfl rfl)
    · have h := of_decide_eq_false h
      obtain ⟨m, rfl⟩ : ∃ m', m = m' + 2 := ⟨m - 2, by omega⟩
      have em : (((m + 2 : Nat) : Int) - 1) = ((m + 1 : Nat) : Int) := by omega
      walk_at "sk"
      rw [eqv_int]
      refine ⟨fun _ => leaf _ _ rfl rfl rfl, fun h8 => ?_⟩
      walk_at "sk"
      rw [eqv_int]
      refine ⟨fun h7 => ?_, fun h7 => ?_⟩
      · walk_at "sk"
        rw [em]
        refine ⟨rfl, [(p, .jar), (x, .lst (R.map V3.d))], [], .refl _, p, x, R, m + 1, rfl, by omega, by omega, hR, hne, rfl, fun t ht => ?_⟩
        walk_at "sk"
        exact ⟨_, sub_refl _, q (.not t) (ht.not.mono (Nat.le_refl _) (Nat.pow_le_pow_right (by decide) (by omega)))⟩
      · walk_at "sk"
        refine ev_lst ?_
        walk_at "sk"
        intro g
        refine ea_nil ?_
        refine ⟨rfl, [(p, .jar), (g, .lst [.int 1, .int 2, .int 2, .int 3])], [(x, .lst (R.map V3.d))], .swap .., p, g, _, rfl, by decide, by decide, rfl, fun d hd => ?_⟩
        have hd2 : ∃ c : Nat, d = .int (c : Int) ∧ 1 ≤ c ∧ c ≤ 3 := by
          simp only [List.mem_cons, List.not_mem_nil, or_false] at hd
          rcases hd with rfl | rfl | rfl | rfl
          · exact ⟨1, rfl, by decide, by decide⟩
          · exact ⟨2, rfl, by decide, by decide⟩
          · exact ⟨2, rfl, by decide, by decide⟩
          · exact ⟨3, rfl, by decide, by decide⟩
        obtain ⟨c, rfl, hc1, hc3⟩ := hd2
        refine tg_name ?_
        refine Sx.less (O' := [(p, .jar), (x, .lst (R.map V3.d))]) ?_ ⟨[(g, .lst [.int 1, .int 2, .int 2, .int 3])], (List.Perm.swap ..).cons _⟩
        walk_at "sk"
        refine ⟨fun _ => ?_, fun _ => ?_⟩
        all_goals
          walk_at "sk"
          refine ev_lc (ei_rng1 ?_) (own_name (by decide))
          walk_at "sk"
          refine ⟨(c : Int), rfl, by omega, by omega, fun i acc O' => O' = [(p, .jar), (x, .lst (R.map V3.d))] ∧ ∃ ts : List Tr, acc = ts.map Tr.d ∧ ts.length = i ∧ i ≤ c ∧ ∀ t ∈ ts, Drawn R (m + 1) (3 ^ m) t, ⟨rfl, [], rfl, rfl, by omega, by simp⟩, fun i acc O' hi hI => ?_, fun i k acc O' hk hI => ?_, fun acc O' hI l => ?_⟩
          · obtain ⟨rfl, ts, rfl, hn, hic, _⟩ := hI
            refine ⟨?_, fun q hq => nomatch hq⟩
            rw [List.length_map]
            omega
          · obtain ⟨rfl, ts, rfl, hn, hic, hb⟩ := hI
            have hi1 : i < c := by
              have := (List.getElem?_eq_some_iff.mp hk).1
              simpa using this
            refine tg_name (et_yes ⟨fun _ => ?_, fun e => nomatch e⟩)
            walk_at "sk"
            rw [em]
            refine ⟨rfl, [(p, .jar), (x, .lst (R.map V3.d))], [], .refl _, p, x, R, m + 1, rfl, by omega, by omega, hR, hne, rfl, fun t ht => ?_⟩
            refine ⟨_, _, rfl, sub_refl _, rfl, ts ++ [t], by rw [List.map_append]; rfl, by rw [List.length_append, hn]; rfl, hi1, fun u hu => ?_⟩
            rcases List.mem_append.mp hu with hu | hu
            · exact hb u hu
            · rw [List.mem_singleton.mp hu]
              exact ht
          · obtain ⟨rfl, ts, rfl, hn, hic, hb⟩ := hI
            have hn : ts.length = c := by rw [hn]; simp
            walk_at "sk"
            refine oc_tuple (ds := ts.map Tr.d) (.lst (by simp)) (by rw [List.length_map]; omega) ?_
            walk_at "sk"
            have key : ∀ a, Drawn R (m + 2) (3 ^ (m + 2 - 1)) (.grp a ts) := fun a => (Drawn.grp a hb (by omega) (show ts.length ≤ 3 by omega) (by decide)).mono (Nat.le_refl _) (Nat.le_of_eq (Nat.pow_succ ..).symm)
            rw [← Tr.dL_map]
            first
            | exact ⟨[(p, .jar), (x, .lst (R.map V3.d))], sub_cons (sub_refl _), q (.grp true ts) (key true)⟩
            | exact ⟨[(p, .jar), (x, .lst (R.map V3.d))], sub_cons (sub_refl _), q (.grp false ts) (key false)⟩

def w_lsky : WT := fun ks O Φ => ∃ (p x : Addr) (R : List V3), ks = [.ptr p, .ptr x] ∧ Pl R ∧ R ≠ [] ∧ O = [(p, .jar), (x, .lst (R.map V3.d))] ∧ ∀ t, Drawn R 4 15 t → Φ (.dat t.d) [(p, .jar), (x, .lst (R.map V3.d))]
theorem cl_law_sky (T : Bt mg) (F : Df K mg "_law_sky" s_law_sky f fd) (C_law_draw : Cl P w K mg base "_law_draw" 1 2 w_ldraw) (C_law_one : Cl P w K mg base "_law_one" 2 2 w_lone) (C_law_by : Cl P w K mg base "_law_by" 1 2 w_lby) (C_law_tree : Cl P w K mg base "_law_tree" 8 3 (w_ltree 3)) : Cl P w K mg base "_law_sky" 9 2 w_lsky := by
  have nd := sc_law_sky.nd
  refine cl_of 8 2 F sc_law_sky rfl (fun _ _ _ _ _ _ us hl => match us, hl with | [_, _], _ => rfl) fun cdv A outer s H E hr => ⟨_, (pss_cons (ps_if (pt_cmpR op_gt (pe_cl C_law_draw (hr.mono (by decide)) (by rfl) (pa_cons (pv 0) (pa_cons pe_int pa_nil))) pe_int (nomark _)) (pss_one (ps_ret (pe_cl C_law_tree (hr.mono (by decide)) (by rfl) (pa_cons (pv 0) (pa_cons (pv 1) (pa_cons pe_int pa_nil)))))) pss_nil)
      (pss_cons (ps_set (i := 2) nd rfl (Or.inl rfl) (pe_lst pa_nil))
      (pss_cons (ps_for PassesOwn.never rfl (pi_range1 (by rfl) T.range_ (pa_cons (pe_op op_add pe_int (pe_cl C_law_draw (hr.mono (by decide)) (by rfl) (pa_cons (pv 0) (pa_cons pe_int pa_nil)))) pa_nil)) (pg_name (i := 3) nd rfl (Or.inl rfl)) (pss_cons (ps_set (i := 5) nd rfl (Or.inl rfl) (pe_lst pa_nil))
      (pss_cons (ps_for PassesOwn.never rfl (kList (K := K) (pv 1)) (pg_name (i := 6) nd rfl (Or.inl rfl)) (pss_cons (ps_set (i := 7) nd rfl (Or.inl rfl) (pe_cl C_law_one (hr.mono (by decide)) (by rfl) (pa_cons (pv 0) (pa_cons (pe_lst (pa_cons pe_int (pa_cons pe_int (pa_cons pe_int (pa_cons pe_int (pa_cons (pe_un un_neg pe_int) pa_nil)))))) pa_nil))))
      (pss_one (ps_expr (kBM (K := K) PySem.F.plainAttrs_list PySem.F.slot_list_append PySem.F.type_list_append mt_append (pv 5) (pa_cons (pe_ifExp (pt_cmpR (kEqD (K := K) hr.units) (pv 7) pe_int (nomark _)) (pe_tup (pa_cons pe_str (pa_cons (pv 6) pa_nil))) (pe_tup (pa_cons pe_str (pa_cons (pe_cl C_law_by (hr.mono (by decide)) (by rfl) (pa_cons (pv 6) (pa_cons (pv 7) pa_nil))) pa_nil)))) pa_nil))))))
      (pss_one (ps_expr (kBM (K := K) PySem.F.plainAttrs_list PySem.F.slot_list_append PySem.F.type_list_append mt_append (pv 2) (pa_cons (pe_tup (pa_cons pe_str (pa_cons (pe_callTy (kTupleOf (K := K)) (by rfl) T.tuple_ (by decide +kernel) (pa_cons (pv 5) pa_nil)) pa_nil))) pa_nil)))))))
      (pss_cons (ps_set (i := 4) nd rfl (Or.inl rfl) (pe_tup (pa_cons pe_str (pa_cons (pe_callTy (kTupleOf (K := K)) (by rfl) T.tuple_ (by decide +kernel) (pa_cons (pv 2) pa_nil)) pa_nil))))
      (pss_one (ps_ret (pe_ifExp (pt_cmpR (kEqD (K := K) hr.units) (pe_cl C_law_draw (hr.mono (by decide)) (by rfl) (pa_cons (pv 0) (pa_cons pe_int pa_nil))) pe_int (nomark _)) (pe_tup (pa_cons pe_str (pa_cons (pv 4) pa_nil))) (pv 4)))))))), ?_⟩
  intro B ks O Φ hl ⟨p, x, R, e1, hR, hne, e2, q⟩
  subst e1 e2
  have h5 := hR.le
  walk_at "sk"
  refine ⟨rfl, [(p, .jar)], [(x, .lst (R.map V3.d))], .refl _, p, _, rfl, by decide, by decide, rfl, fun way hw0 hw1 => ?_⟩
  walk_at "sk"
  refine ⟨fun _ => ?_, fun _ => ?_⟩
  · walk_at "sk"
    refine ⟨rfl, [(p, .jar), (x, .lst (R.map V3.d))], [], .refl _, p, x, R, 3, rfl, by decide, by decide, hR, hne, rfl, fun t ht => ?_⟩
    exact ⟨_, sub_refl _, q t (ht.mono (by decide) (by decide))⟩
  · walk_at "sk"
    refine ev_lst ?_
    walk_at "sk"
    intro rs
    refine tg_name ?_
    refine sx_seq ?_
    refine sx_for (ei_rng1 ?_)
    walk_at "sk"
    refine ⟨rfl, [(p, .jar)], [(rs, .lst []), (x, .lst (R.map V3.d))], .swap .., p, _, rfl, by decide, by decide, rfl, fun k hk0 hk1 => ?_⟩
    walk_at "sk"
    refine ⟨_, rfl, by omega, by omega, fun i ρ' O' => ∃ ts : List Tr, O' = [(p, .jar), (rs, .lst (ts.map Tr.d)), (x, .lst (R.map V3.d))] ∧ (∀ t ∈ ts, Drawn R 2 5 t) ∧ ts.length = i ∧ ∃ y3 y4 y5 y6 y7, ρ' = [some (.ptr p), some (.ptr x), some (.ptr rs), y3, y4, y5, y6, y7],
      ⟨[], rfl, (fun _ h => nomatch h), rfl, _, _, _, _, _, rfl⟩, (fun _ _ _ _ _ q hq => nomatch hq), fun i k ρ' O' hk hI => ?_, fun ρ' O' hI => ?_⟩
    · obtain ⟨ts, rfl, hts, hti, y3, y4, y5, y6, y7, rfl⟩ := hI
      refine tg_name ?_
      walk_at "sk"
      refine ev_lst ?_
      walk_at "sk"
      intro rw_
      refine tg_name ?_
      refine Sx.less (O' := [(p, .jar), (rw_, .lst (([] : List Tr).map Tr.d)), (rs, .lst (ts.map Tr.d)), (x, .lst (R.map V3.d))]) ?_ ⟨[], .swap ..⟩
      refine sx_seq ?_
      refine sx_for (ei_list ?_)
      walk_at "sk"
      refine ⟨x, R.map V3.d, rfl, by simp, fun j ρ' O' => ∃ ls : List Tr, O' = [(p, .jar), (rw_, .lst (ls.map Tr.d)), (rs, .lst (ts.map Tr.d)), (x, .lst (R.map V3.d))] ∧ (∀ t ∈ ls, Drawn R 1 1 t) ∧ ls.length = j ∧ ∃ y3 y4 y6 y7, ρ' = [some (.ptr p), some (.ptr x), some (.ptr rs), y3, y4, some (.ptr rw_), y6, y7],
        ?_, fun j ρ' O' _ hI q hq => ?_, fun j k ρ' O' hk hI => ?_, fun ρ' O' hI => ?_⟩
      · exact ⟨[], rfl, (fun _ h => nomatch h), rfl, _, _, _, _, rfl⟩
      · obtain ⟨ls, rfl, _⟩ := hI
        rw [List.mem_singleton] at hq
        rw [hq]
        simp
      · obtain ⟨ls, rfl, hls, hlj, y3, y4, y6, y7, rfl⟩ := hI
        rw [List.getElem?_map, List.getElem?_map] at hk
        cases hr : R[j]? with
        | none => rw [hr] at hk; cases hk
        | some r =>
          rw [hr] at hk
          cases hk
          have hrm := List.mem_of_getElem? hr
          have hj1 := (List.getElem?_eq_some_iff.mp hr).1
          refine tg_name ?_
          walk_at "sk"
          refine ev_lst ?_
          walk_at "sk"
          intro g
          refine ea_nil ?_
          refine ⟨rfl, [(p, .jar), (g, .lst [.int 0, .int 0, .int 1, .int 1, .int (-1)])], [(rw_, .lst (ls.map Tr.d)), (rs, .lst (ts.map Tr.d)), (x, .lst (R.map V3.d))], .swap .., p, g, _, rfl, by decide, by decide, rfl, fun d hd => ?_⟩
          have hd2 : ∃ c : Int, d = .int c ∧ c.natAbs ≤ 1 := by
            simp only [List.mem_cons, List.not_mem_nil, or_false] at hd
            rcases hd with rfl | rfl | rfl | rfl | rfl
            all_goals exact ⟨_, rfl, by decide⟩
          obtain ⟨c, rfl, hc⟩ := hd2
          refine tg_name ?_
          refine Sx.less (O' := [(p, .jar), (rw_, .lst (ls.map Tr.d)), (rs, .lst (ts.map Tr.d)), (x, .lst (R.map V3.d))]) ?_ ⟨[(g, .lst [.int 0, .int 0, .int 1, .int 1, .int (-1)])], (List.perm_append_comm (l₁ := [_]) (l₂ := [_, _, _])).cons _⟩
          walk_at "sk"
          refine ev_bm ?_
          walk_at "sk"
          refine ⟨.lst (ds := ls.map Tr.d) (by simp), ?_⟩
          walk_at "sk"
          rw [eqv_int]
          have fin : ∀ (t : Tr), Drawn R 1 1 t → (∀ u ∈ ls ++ [t], Drawn R 1 1 u) ∧ (ls ++ [t]).length = j + 1 := fun t ht => ⟨fun u hu => by
            rcases List.mem_append.mp hu with hu | hu
            · exact hls u hu
            · rw [List.mem_singleton.mp hu]; exact ht, by rw [List.length_append, hlj]; rfl⟩
          have hz : (ls.map Tr.d).length < 100000 := by rw [List.length_map]; omega
          have es : V3.sc 1 r = r := V3.ext' (Int.one_mul _) (Int.one_mul _) (Int.one_mul _)
          refine ⟨fun h0 => ?_, fun h0 => ?_⟩
          · walk_at "sk"
            refine om_append (ds := ls.map Tr.d) (j := 1) rfl hz ?_
            obtain ⟨f1, f2⟩ := fin (.leaf false r) (by have := Drawn.leaf hR hrm false (c := 1) (by decide) (by decide); rw [es] at this; exact this)
            exact ⟨_, sub_refl _, ls ++ [.leaf false r], by rw [List.map_append]; rfl, f1, f2, _, _, _, _, rfl⟩
          · have h0 : c ≠ 0 := by simpa using h0
            walk_at "sk"
            refine ⟨rfl, callK0 ⟨r, c, rfl, by omega, rfl, ?_⟩⟩
            walk_at "sk"
            refine om_append (ds := ls.map Tr.d) (j := 1) rfl hz ?_
            obtain ⟨f1, f2⟩ := fin (.leaf true (V3.sc c r)) (Drawn.leaf hR hrm true h0 (by omega))
            exact ⟨_, sub_refl _, ls ++ [.leaf true (V3.sc c r)], by rw [List.map_append]; rfl, f1, f2, _, _, _, _, rfl⟩
      · obtain ⟨ls, rfl, hls, hlj, y3, y4, y6, y7, rfl⟩ := hI
        have hlR : ls.length = R.length := by rw [hlj]; simp
        have hl1 : 1 ≤ ls.length := by rw [hlR]; exact List.length_pos_iff.mpr hne
        have hi3 : i < 3 := by
          have := (List.getElem?_eq_some_iff.mp hk).1
          rw [List.length_map, List.length_range] at this
          omega
        walk_at "sk"
        refine ev_bm ?_
        walk_at "sk"
        refine ⟨.lst (ds := ts.map Tr.d) (by simp), ?_⟩
        walk_at "sk"
        refine oc_tuple (ds := ls.map Tr.d) (.lst (by simp)) (by rw [List.length_map]; omega) ?_
        walk_at "sk"
        refine om_append (ds := ts.map Tr.d) (j := 2) rfl (by rw [List.length_map]; omega) ?_
        refine ⟨[(p, .jar), (rs, .lst ((ts ++ [Tr.grp true ls]).map Tr.d)), (x, .lst (R.map V3.d))], ?_, ts ++ [Tr.grp true ls], rfl, fun t ht => ?_, by rw [List.length_append, hti]; rfl, _, _, _, _, _, rfl⟩
        · rw [List.map_append]
          refine ⟨[(rw_, .lst (ls.map Tr.d))], ?_⟩
          have e : (Tr.grp true ls).d = PyData.tuple [.str "and", .tuple (ls.map Tr.d)] := by rw [← Tr.dL_map ls]; rfl
          rw [show [Tr.grp true ls].map Tr.d = [PyData.tuple [.str "and", .tuple (ls.map Tr.d)]] by rw [← e]; rfl]
          exact (List.perm_append_comm (l₁ := [_]) (l₂ := [_, _])).cons _
          /- [(rw_, .lst (ls.map Tr.d))], (List.perm_append_comm (l₁ := [_]) (l₂ := [_, _])).cons _⟩ -/
        · rcases List.mem_append.mp ht with ht | ht
          · exact hts t ht
          · rw [List.mem_singleton.mp ht]
            exact Drawn.grp (n := 1) (m := 1) (k := 5) true hls hl1 (by omega) (by decide)
    · obtain ⟨ts, rfl, hts, hti, y3, y4, y5, y6, y7, rfl⟩ := hI
      have hti : (ts.length : Int) = 1 + k := by
        rw [hti, List.length_map, List.length_range]
        omega
      have key : Drawn R 3 15 (.grp false ts) := Drawn.grp (n := 2) (m := 5) (k := 3) false hts (by omega) (by omega) (by decide)
      walk_at "sk"
      refine oc_tuple (ds := ts.map Tr.d) (.lst (by simp)) (by rw [List.length_map]; omega) ?_
      walk_at "sk"
      refine ⟨rfl, [(p, .jar)], [(rs, .lst (ts.map Tr.d)), (x, .lst (R.map V3.d))], .refl _, p, _, rfl, by decide, by decide, rfl, fun z hz0 hz1 => ?_⟩
      walk_at "sk"
      rw [eqv_int, ← Tr.dL_map ts]
      refine ⟨fun _ => ?_, fun _ => ?_⟩
      · walk_at "sk"
        exact ⟨[(p, .jar), (x, .lst (R.map V3.d))], sub_keep (sub_cons (sub_refl _)), q (.not (.grp false ts)) key.not⟩
      · walk_at "sk"
        exact ⟨[(p, .jar), (x, .lst (R.map V3.d))], sub_keep (sub_cons (sub_refl _)), q (.grp false ts) (key.mono (by decide) (by decide))⟩
end
end Sk


/-! La11: the law's rims -/
namespace Sk
open PySem PySem.Spec PyProof.Rows L2
local macro_rules | `(tactic| walk_at "sk") => `(tactic| repeat' (first
  | ((with_reducible show Ev _ (tVar _) _ _ _); refine ev_var rfl ?_) | with_reducible refine ev_int ?_ | with_reducible refine ev_bl ?_ | with_reducible refine ev_non ?_ | with_reducible refine ev_str ?_ | with_reducible refine ev_ty ?_ | with_reducible refine ev_ref ?_
  | with_reducible refine ev_op ?_ | with_reducible refine ev_un ?_ | with_reducible refine ev_cb ?_ | with_reducible refine ea_cons ?_ | with_reducible refine ea_nil ?_
  | with_reducible refine ev_if ?_ | with_reducible refine ev_and ?_ | with_reducible refine ev_or ?_ | with_reducible refine ev_not ?_ | with_reducible refine ev_tup ?_ | with_reducible refine ev_call ?_
  | with_reducible refine sx_seq ?_ | with_reducible refine sx_asg ?_ | with_reducible refine tg_name ?_ | with_reducible refine sx_ret ?_ | with_reducible refine sx_next ?_ | with_reducible refine sx_drop ?_ | with_reducible refine sx_if ?_
  | with_reducible refine et_chain ?_ | with_reducible refine et_test ?_ | with_reducible refine et_B ?_ | with_reducible refine et_not ?_ | with_reducible refine et_and ?_ | with_reducible refine et_or ?_
  | with_reducible refine o_add ?_ | with_reducible refine o_sub ?_ | with_reducible refine o_lt ?_ | with_reducible refine o_le ?_ | with_reducible refine o_gt ?_ | with_reducible refine o_ge ?_
  | with_reducible refine o_neg ?_ | with_reducible refine o_subB ?_ | with_reducible refine o_mul ?_ ?_
  | ((with_reducible show Op2 _ (rIx _) _ _ _ _); refine o_ix (.tup _) rfl ?_)
  | ((with_reducible show Op2 _ (rEqD _) _ _ _ _); (first | refine o_eqD (.dat _) (.dat _) rfl rfl ?_ | refine o_eqD (.dat _) (.dat _) (by decide +kernel) (by decide +kernel) ?_))
  | ((with_reducible show Op2 _ (rNeD _) _ _ _ _); (first | refine o_neD (.dat _) (.dat _) rfl rfl ?_ | refine o_neD (.dat _) (.dat _) (by decide +kernel) (by decide +kernel) ?_))
  | ((with_reducible show Op2 _ (rIn _ false) _ _ _ _); refine o_in (.tup _) (by rfl) (by rfl) ?_) | ((with_reducible show Op2 _ (rIn _ true) _ _ _ _); refine o_notIn (.tup _) (by rfl) (by rfl) ?_)
  | ((with_reducible show OpC _ (rIsi _) _ _ _); (first | refine oc_isi (b := true) (by rfl) ?_ | refine oc_isi (b := false) (by rfl) ?_))
  | ((with_reducible show OpC _ _ _ _ _); refine oc_len (.tup _) ?_)
  | ((with_reducible show Tg _ (gTup _ _ _) _ _ _ _); (first | with_reducible refine tg_pair ?_ | refine tg_tup rfl ?_)) | ((with_reducible show Tgs _ (gCons _ _) _ _ _ _); refine tgs_cons ?_) | ((with_reducible show Tgs _ gNil _ _ _ _); refine tgs_nil ?_)
  | ((with_reducible show ∃ ds, alld _ ds ∧ _); (first
    | refine ⟨[_, _, _], ⟨rfl, rfl, rfl, trivial⟩, Nat.le_of_ble_eq_true rfl, ?_⟩ | refine ⟨[_, _], ⟨rfl, rfl, trivial⟩, Nat.le_of_ble_eq_true rfl, ?_⟩ | refine ⟨[_], ⟨rfl, trivial⟩, Nat.le_of_ble_eq_true rfl, ?_⟩ | refine ⟨[], trivial, Nat.le_of_ble_eq_true rfl, ?_⟩
    | refine ⟨[_, _, _, _], ⟨rfl, rfl, rfl, rfl, trivial⟩, Nat.le_of_ble_eq_true rfl, ?_⟩ | refine ⟨[_, _, _, _, _], ⟨rfl, rfl, rfl, rfl, rfl, trivial⟩, Nat.le_of_ble_eq_true rfl, ?_⟩ | refine ⟨[_, _, _, _, _, _], ⟨rfl, rfl, rfl, rfl, rfl, rfl, trivial⟩, Nat.le_of_ble_eq_true rfl, ?_⟩
    | refine ⟨[_, _, _, _, _, _, _], ⟨rfl, rfl, rfl, rfl, rfl, rfl, rfl, trivial⟩, Nat.le_of_ble_eq_true rfl, ?_⟩))
  | ((with_reducible show (_ = true → _) ∧ (_ = false → _)); (first | refine pickT rfl ?_ | refine pickF rfl ?_))
  | ((with_reducible show ∃ _, Kn.dat (PyData.bool _) = Kn.dat (PyData.bool _) ∧ _); refine ⟨_, rfl, ?_⟩)
  | ((with_reducible show ∃ _, Kn.dat _ = Kn.dat _ ∧ _); refine ⟨_, rfl, ?_⟩) | fail))

section
variable {P : Program} {w : World} {K : PySem.W.Frag} {mg : Str → Option Value} {base : Heap} {f : Addr} {fd : FuncData}

theorem V3.In.low {h : Int} {v : V3} (hv : v.In h) : v.low.In h := by
  obtain ⟨hx, hy, hz⟩ := hv
  have e : ∀ {n : Int}, v.g ∣ n → -h ≤ n ∧ n ≤ h → -h ≤ n / v.g ∧ n / v.g ≤ h := fun {n} hd hn => by
    have := natAbs_ediv_le n v.g hd
    omega
  exact ⟨e v.g_x hx, e v.g_y hy, e v.g_z hz⟩
theorem V3.In.neg {h : Int} {v : V3} (hv : v.In h) : v.neg.In h := by
  obtain ⟨hx, hy, hz⟩ := hv
  refine ⟨?_, ?_, ?_⟩ <;> simp only [V3.neg] <;> omega
theorem V3.In.fst {h : Int} {v : V3} (hv : v.In h) : v.fst.In h := by
  unfold V3.fst
  split
  · exact hv.low
  · exact hv.low.neg
theorem V3.Bd.fst {n : Nat} {v : V3} (hv : v.Bd n) : v.fst.Bd n := by
  unfold V3.fst
  split
  · exact hv.low
  · exact hv.low.neg
theorem V3.In.bd {h : Int} {v : V3} (hv : v.In h) (hh : h < 4096) : v.Bd 12 := by
  obtain ⟨hx, hy, hz⟩ := hv
  refine ⟨?_, ?_, ?_⟩ <;> omega
theorem line_nz {a b : V3} (ha : a.Norm) (hb : b.Norm) (hne : a ≠ b) {c : Int} (hc : c ≠ 0) : (V3.add a (V3.sc c b)).nz := fun ⟨e1, e2, e3⟩ => by
  have e : a = V3.sc (-c) b := V3.ext' (by simp only [V3.add, V3.sc] at e1 ⊢; rw [Int.neg_mul]; omega) (by simp only [V3.add, V3.sc] at e2 ⊢; rw [Int.neg_mul]; omega) (by simp only [V3.add, V3.sc] at e3 ⊢; rw [Int.neg_mul]; omega)
  have h1 := V3.sc_fst hb (c := -c) (by omega)
  rw [← e, ha.fst] at h1
  exact hne h1
theorem line_bd {a b : V3} (ha : a.In 999) (hb : b.In 999) {c : Int} (hc : c = 1 ∨ c = -1 ∨ c = 2) : (V3.add a (V3.sc c b)).Bd 12 := by
  obtain ⟨a1, a2, a3⟩ := ha
  obtain ⟨b1, b2, b3⟩ := hb
  rcases hc with rfl | rfl | rfl
  all_goals
    refine ⟨?_, ?_, ?_⟩ <;> simp only [V3.add, V3.sc] <;> omega
/-- the rims so far -/
structure Rms (i : Nat) (G : List V3) : Prop where
  nd : G.Nodup
  nm : ∀ p ∈ G, p.Norm
  bd : ∀ p ∈ G, p.Bd 12
  two : ∀ p ∈ G.take 2, p.In 999
  le : G.length ≤ i
  ne : 0 < i → G ≠ []
theorem Rms.nil : Rms 0 [] := ⟨List.nodup_nil, (fun _ h => nomatch h), (fun _ h => nomatch h), (fun _ h => nomatch h), Nat.le_refl _, fun h => absurd h (Nat.lt_irrefl _)⟩
theorem Rms.old {i : Nat} {G : List V3} {v : V3} (h : Rms i G) (hv : v ∈ G) : Rms (i + 1) G := ⟨h.nd, h.nm, h.bd, h.two, Nat.le_succ_of_le h.le, fun _ e => by rw [e] at hv; exact nomatch hv⟩
theorem Rms.new {i : Nat} {G : List V3} {v : V3} (h : Rms i G) (hn : v ∉ G) (h1 : v.Norm) (h2 : v.Bd 12) (h3 : G.length < 2 → v.In 999) : Rms (i + 1) (G ++ [v]) := by
  refine ⟨List.nodup_append.mpr ⟨h.nd, by simp, fun a ha b hb e => hn (by rw [List.mem_singleton] at hb; subst hb e; exact ha)⟩, fun p hp => ?_, fun p hp => ?_, fun p hp => ?_, by rw [List.length_append]; have := h.le; simp; omega, fun _ => by simp⟩
  · rcases List.mem_append.mp hp with hp | hp
    · exact h.nm p hp
    · rw [List.mem_singleton.mp hp]; exact h1
  · rcases List.mem_append.mp hp with hp | hp
    · exact h.bd p hp
    · rw [List.mem_singleton.mp hp]; exact h2
  · rw [List.take_append] at hp
    rcases List.mem_append.mp hp with hp | hp
    · exact h.two p hp
    · have hm := List.mem_of_mem_take hp
      rw [List.mem_singleton.mp hm]
      refine h3 (Nat.lt_of_not_le fun z => ?_)
      rw [Nat.sub_eq_zero_of_le z, List.take_zero] at hp
      exact nomatch hp
def w_lrims : WT := fun ks O Φ => ∃ (p : Addr) (m h : Int), ks = [.ptr p, .dat (.int m), .dat (.int h)] ∧ 1 ≤ m ∧ m ≤ 5 ∧ 1 ≤ h ∧ h ≤ 999 ∧ O = [(p, .jar)] ∧ ∀ x R, Pl R → R ≠ [] → Φ (.ptr x) [(p, .jar), (x, .lst (R.map V3.d))]
theorem cl_law_rims (T : Bt mg) (F : Df K mg "_law_rims" s_law_rims f fd) (C_law_draw : Cl P w K mg base "_law_draw" 1 2 w_ldraw) (C_law_one : Cl P w K mg base "_law_one" 2 2 w_lone) (C_law_triple : Cl P w K mg base "_law_triple" 2 2 w_ltriple) (C_law_rim : Cl P w K mg base "_law_rim" 3 1 w_lrim) : Cl P w K mg base "_law_rims" 4 3 w_lrims := by
  have nd := sc_law_rims.nd
  refine cl_of 3 3 F sc_law_rims rfl (fun _ _ _ _ _ _ us hl => match us, hl with | [_, _, _], _ => rfl) fun cdv A outer s H E hr => ⟨_, (pss_cons (ps_set (i := 3) nd rfl (Or.inr rfl) (pe_lst pa_nil))
      (pss_cons (ps_for PassesOwn.never rfl (pi_range1 (by rfl) T.range_ (pa_cons (pv 1) pa_nil)) (pg_name (i := 4) nd rfl (Or.inl rfl)) (pss_cons (ps_par (i := 5) (j := 6) (by rfl) nd rfl rfl (by decide) rfl rfl (pa_cons (pe_cl C_law_draw (hr.mono (by decide)) (by rfl) (pa_cons (pv 0) (pa_cons pe_int pa_nil))) (pa_cons (pe_cl C_law_triple (hr.mono (by decide)) (by rfl) (pa_cons (pv 0) (pa_cons (pv 2) pa_nil))) pa_nil)) (by rfl))
      (pss_cons (ps_if (pt_cmpR (kEqD (K := K) hr.units) (pv 5) pe_int (nomark _)) (pss_one (ps_set (i := 6) nd rfl (Or.inl rfl) (pe_cl C_law_one (hr.mono (by decide)) (by rfl) (pa_cons (pv 0) (pa_cons (pe_lst (pa_cons (pe_tup (pa_cons pe_int (pa_cons pe_int (pa_cons pe_int pa_nil)))) (pa_cons (pe_tup (pa_cons pe_int (pa_cons pe_int (pa_cons pe_int pa_nil)))) (pa_cons (pe_tup (pa_cons pe_int (pa_cons pe_int (pa_cons pe_int pa_nil)))) (pa_cons (pe_tup (pa_cons pe_int (pa_cons pe_int (pa_cons pe_int pa_nil)))) pa_nil))))) pa_nil))))) pss_nil)
      (pss_cons (ps_if (PW.pt (pw_and (pt_cmpR (kEqD (K := K) hr.units) (pv 5) pe_int (nomark _)) (pw_and1 (pt_cmpR (kNeD (K := K) hr.units) (pe_slice (kSlA (K := K)) (pv 6) po_none (po_some pe_int)) (pe_tup (pa_cons pe_int (pa_cons pe_int pa_nil))) (nomark _))))) (pss_one (ps_set (i := 6) nd rfl (Or.inl rfl) (pe_tup (pa_cons (pe_ix (kIx (K := K)) (pv 6) pe_int (fun _ _ => rfl)) (pa_cons (pe_ix (kIx (K := K)) (pv 6) pe_int (fun _ _ => rfl)) (pa_cons pe_int pa_nil)))))) pss_nil)
      (pss_cons (ps_if (PW.pt (pw_and (pt_cmpR (kEqD (K := K) hr.units) (pv 5) pe_int (nomark _)) (pw_and (pt_cmpR op_gt (pe_callB (kLen (K := K)) (by rfl) T.len_ (by decide +kernel) (pa_cons (pv 3) pa_nil)) pe_int (nomark _)) (pw_and1 (pt_cmpR op_lt (pv 2) pe_int (nomark _)))))) (pss_cons (ps_set (i := 7) nd rfl (Or.inr rfl) (pe_cl C_law_one (hr.mono (by decide)) (by rfl) (pa_cons (pv 0) (pa_cons (pe_lst (pa_cons pe_int (pa_cons (pe_un un_neg pe_int) (pa_cons pe_int pa_nil)))) pa_nil))))
      (pss_one (ps_set (i := 6) nd rfl (Or.inl rfl) (pe_callTy (kTupleOf (K := K)) (by rfl) T.tuple_ (by decide +kernel) (pa_cons (pe_lc (own := [("_law_k", 8)]) (g := gName 8) (by rfl) nd (pi_range1 (by rfl) T.range_ (pa_cons pe_int pa_nil)) (blkOk_by (own := [("_law_k", 8)]) (N := N_law_rims) (sc := defScope s_law_rims) (by decide +kernel)) (fun _ _ _ _ _ => (pg_name (i := 8) nd rfl (Or.inl rfl))) (fun _ _ _ _ _ => pts_nil) (fun _ _ _ _ _ => (pe_op op_add (pe_ix (kIx (K := K)) (pe_ix (kIx (K := K)) (pv 3) pe_int (fun _ _ => rfl)) (pv 8) (fun _ _ => rfl)) (pe_op op_mul (pv 7) (pe_ix (kIx (K := K)) (pe_ix (kIx (K := K)) (pv 3) pe_int (fun _ _ => rfl)) (pv 8) (fun _ _ => rfl)))))) pa_nil))))) pss_nil)
      (pss_cons (ps_set (i := 6) nd rfl (Or.inl rfl) (pe_cl C_law_rim (hr.mono (by decide)) (by rfl) (pa_cons (pv 6) pa_nil)))
      (pss_one (ps_if (pt_cmpR (kNotInD (K := K) (hu65 hr)) (pv 6) (pv 3) (by with_unfolding_all rfl)) (pss_one (ps_expr (kBM (K := K) PySem.F.plainAttrs_list PySem.F.slot_list_append PySem.F.type_list_append mt_append (pv 3) (pa_cons (pv 6) pa_nil)))) pss_nil))))))))
      (pss_one (ps_ret (pv 3))))), ?_⟩
  intro B ks O Φ hl ⟨p, m, h, e1, hm1, hm5, hh1, hh9, e2, q⟩
  subst e1 e2
  walk_at "sk"
  refine ev_lst ?_
  walk_at "sk"
  intro x
  refine tg_name ?_
  refine Sx.less (O' := [(p, .jar), (x, .lst (([] : List V3).map V3.d))]) ?_ ⟨[], .swap ..⟩
  refine sx_seq ?_
  refine sx_for (ei_rng1 ?_)
  walk_at "sk"
  refine ⟨m, rfl, by omega, by omega, fun i ρ' O' => ∃ G : List V3, O' = [(p, .jar), (x, .lst (G.map V3.d))] ∧ Rms i G ∧ i ≤ 5 ∧ ∃ y4 y5 y6 y7 y8, ρ' = [some (.ptr p), some (.dat (.int m)), some (.dat (.int h)), some (.ptr x), y4, y5, y6, y7, y8], ?_, (fun _ _ _ _ _ q hq => nomatch hq), fun i k ρ' O' hk hI => ?_, fun ρ' O' hI => ?_⟩
  · exact ⟨[], rfl, .nil, by decide, _, _, _, _, _, rfl⟩
  · obtain ⟨G, rfl, hG, hi5, y4, y5, y6, y7, y8, rfl⟩ := hI
    refine tg_name ?_
    refine sx_seq ?_
    refine sx_par2 (by decide) ?_
    walk_at "sk"
    refine ⟨rfl, [(p, .jar)], [(x, .lst (G.map V3.d))], .refl _, p, _, rfl, by decide, by decide, rfl, fun way hw0 hw1 => ?_⟩
    walk_at "sk"
    refine ⟨rfl, [(p, .jar)], [(x, .lst (G.map V3.d))], .refl _, p, h, rfl, hh1, hh9, rfl, fun v hv hvh => ?_⟩
    walk_at "sk"
    refine ⟨_, _, rfl, ?_⟩
    have hv9 : v.In 999 := by
      obtain ⟨a, b, c⟩ := hvh
      exact ⟨by omega, by omega, by omega⟩
    -- behind the first choice
    refine sx_mid (fun ρ' O' => ∃ (v : V3) (y7 y8 : Option Kn), Sub [(p, .jar), (x, .lst (G.map V3.d))] O' ∧ v.nz ∧ v.In 999 ∧ ρ' = [some (.ptr p), some (.dat (.int m)), some (.dat (.int h)), some (.ptr x), some k, some (.dat (.int way)), some (.dat v.d), y7, y8]) ?_ fun ρ' O' hM => ?_
    · walk_at "sk"
      rw [eqv_int]
      refine ⟨fun _ => ?_, fun _ => ?_⟩
      · walk_at "sk"
        refine ev_lst ?_
        walk_at "sk"
        intro g
        refine ea_nil ?_
        refine ⟨rfl, [(p, .jar), (g, .lst ([⟨0, 0, 1⟩, ⟨1, 0, 0⟩, ⟨0, 1, 0⟩, ⟨1, 0, 1⟩].map V3.d))], [(x, .lst (G.map V3.d))], .swap .., p, g, _, rfl, by decide, by decide, rfl, fun d hd => ?_⟩
        obtain ⟨u, hu, rfl⟩ := List.mem_map.mp hd
        have hu2 : u.nz ∧ u.In 999 := by
          simp only [List.mem_cons, List.not_mem_nil, or_false] at hu
          rcases hu with rfl | rfl | rfl | rfl
          all_goals exact ⟨by unfold V3.nz; decide, by unfold V3.In; decide⟩
        refine tg_name ?_
        exact ⟨u, _, _, ⟨[(g, _)], (List.Perm.swap ..).cons _⟩, hu2.1, hu2.2, rfl⟩
      · walk_at "sk"
        exact ⟨v, _, _, sub_refl _, hv, hv9, rfl⟩
    obtain ⟨v, y7, y8, sb, hv, hv9, rfl⟩ := hM
    refine Sx.less ?_ sb
    refine sx_mid (fun ρ' O' => ∃ (v : V3) (y7 y8 : Option Kn), Sub [(p, .jar), (x, .lst (G.map V3.d))] O' ∧ v.nz ∧ v.In 999 ∧ ρ' = [some (.ptr p), some (.dat (.int m)), some (.dat (.int h)), some (.ptr x), some k, some (.dat (.int way)), some (.dat v.d), y7, y8]) ?_ fun ρ' O' hM => ?_
    · walk_at "sk"
      rw [eqv_int]
      refine ⟨fun _ => ?_, fun _ => ?_⟩
      · walk_at "sk"
        refine ev_slT ?_
        walk_at "sk"
        refine eo_none ?_
        refine eo_some ?_
        walk_at "sk"
        rw [show cutD [PyData.int v.x, PyData.int v.y, PyData.int v.z] none (some 2) = [v.x, v.y].map PyData.int from cut_to [v.x, v.y, v.z] 2, show PyData.eqv (.tuple ([v.x, v.y].map PyData.int)) (.tuple [.int 0, .int 0]) = decide ([v.x, v.y] = [0, 0]) from eqv_tup [v.x, v.y] [0, 0]]
        refine ⟨fun hne => ?_, fun _ => ?_⟩
        · have hne : ¬ ([v.x, v.y] = [0, 0]) := of_decide_eq_false (by simpa only [Bool.not_eq_true'] using hne)
          walk_at "sk"
          exact ⟨⟨v.x, v.y, 0⟩, _, _, sub_refl _, fun e => hne (by rw [show v.x = 0 from e.1, show v.y = 0 from e.2.1]), ⟨hv9.1, hv9.2.1, show (-999 : Int) ≤ 0 ∧ (0 : Int) ≤ 999 by decide⟩, rfl⟩
        · walk_at "sk"
          exact ⟨v, _, _, sub_refl _, hv, hv9, rfl⟩
      · refine pickF rfl ?_
        walk_at "sk"
        exact ⟨v, _, _, sub_refl _, hv, hv9, rfl⟩
    obtain ⟨v, y7, y8, sb, hv, hv9, rfl⟩ := hM
    refine Sx.less ?_ sb
    refine sx_mid (fun ρ' O' => ∃ (v : V3) (y7 y8 : Option Kn), Sub [(p, .jar), (x, .lst (G.map V3.d))] O' ∧ v.nz ∧ v.Bd 12 ∧ (G.length < 2 → v.In 999) ∧ ρ' = [some (.ptr p), some (.dat (.int m)), some (.dat (.int h)), some (.ptr x), some k, some (.dat (.int way)), some (.dat v.d), y7, y8]) ?_ fun ρ' O' hM => ?_
    · have keep : ∃ (v' : V3) (y7' y8' : Option Kn), Sub [(p, .jar), (x, .lst (G.map V3.d))] [(p, Cell.jar), (x, .lst (G.map V3.d))] ∧ v'.nz ∧ v'.Bd 12 ∧ (G.length < 2 → v'.In 999) ∧ [some (Kn.ptr p), some (.dat (.int m)), some (.dat (.int h)), some (.ptr x), some k, some (.dat (.int way)), some (.dat v.d), y7, y8] = [some (.ptr p), some (.dat (.int m)), some (.dat (.int h)), some (.ptr x), some k, some (.dat (.int way)), some (.dat v'.d), y7', y8'] := ⟨v, _, _, sub_refl _, hv, hv9.bd (by decide), fun _ => hv9, rfl⟩
      walk_at "sk"
      rw [eqv_int]
      refine ⟨fun _ => ?_, fun _ => ?_⟩
      · walk_at "sk"
        refine oc_len (ds := G.map V3.d) (.lst (by simp)) ?_
        walk_at "sk"
        rw [List.length_map]
        refine ⟨fun h2 => ?_, fun h2 => ?_⟩
        · have h2 := of_decide_eq_true h2
          walk_at "sk"
          refine pickT (decide_eq_true (by omega)) ?_
          walk_at "sk"
          refine ev_lst ?_
          walk_at "sk"
          intro g
          refine ea_nil ?_
          refine ⟨rfl, [(p, .jar), (g, .lst [.int 1, .int (-1), .int 2])], [(x, .lst (G.map V3.d))], .swap .., p, g, _, rfl, by decide, by decide, rfl, fun d hd => ?_⟩
          have hd2 : ∃ c : Int, d = .int c ∧ (c = 1 ∨ c = -1 ∨ c = 2) := by
            simp only [List.mem_cons, List.not_mem_nil, or_false] at hd
            rcases hd with rfl | rfl | rfl
            · exact ⟨1, rfl, .inl rfl⟩
            · exact ⟨-1, rfl, .inr (.inl rfl)⟩
            · exact ⟨2, rfl, .inr (.inr rfl)⟩
          obtain ⟨c, rfl, hc⟩ := hd2
          refine tg_name ?_
          refine Sx.less (O' := [(p, .jar), (x, .lst (G.map V3.d))]) ?_ ⟨[(g, .lst [.int 1, .int (-1), .int 2])], (List.Perm.swap ..).cons _⟩
          obtain ⟨a, b, G2, rfl⟩ : ∃ a b G2, G = a :: b :: G2 := by
            match G, h2 with
            | a :: b :: G2, _ => exact ⟨a, b, G2, rfl⟩
            | [_], h => simp at h
            | [], h => simp at h
          have ha := hG.two a (by simp)
          have hb := hG.two b (by simp)
          have hab : a ≠ b := fun e => by
            have := hG.nd
            rw [e] at this
            simp at this
          have hnz := line_nz (hG.nm a (by simp)) (hG.nm b (by simp)) hab (c := c) (by omega)
          have hbd := line_bd ha hb hc
          walk_at "sk"
          refine ev_lcF (ei_rng1 ?_) (own_name (by decide))
          walk_at "sk"
          refine ⟨3, rfl, by decide, by decide, Nat, [0, 1, 2], fun i => .dat (.int (0 + (i : Int))), fun i => some (.int (a.l.getD i 0 + c * b.l.getD i 0)), rfl, by decide, (fun q hq => nomatch hq), fun i hi => ?_, fun l => ?_⟩
          · have a0 : atI ((a :: b :: G2).map V3.d) 0 = some a.d := atI_nat (i := 0) rfl
            have a1 : atI ((a :: b :: G2).map V3.d) 1 = some b.d := atI_nat (i := 1) rfl
            simp only [List.mem_cons, List.not_mem_nil, or_false] at hi
            refine tg_name (et_yes ⟨fun _ => ?_, fun e => nomatch e⟩)
            rcases hi with rfl | rfl | rfl
            all_goals
              walk_at "sk"
              refine o_ix (.lst (ds := (a :: b :: G2).map V3.d) (by simp)) a0 ?_
              walk_at "sk"
              refine o_ix (.lst (ds := (a :: b :: G2).map V3.d) (by simp)) a1 ?_
              walk_at "sk"
              · exact .inl (by omega)
              · exact ⟨rfl, sub_refl _⟩
          · walk_at "sk"
            refine oc_tuple (ds := (V3.add a (V3.sc c b)).l.map PyData.int) (.lst (List.mem_cons_self ..)) (by show 3 ≤ 100000; decide) ?_
            refine tg_name ?_
            exact ⟨V3.add a (V3.sc c b), _, _, sub_cons (sub_refl _), hnz, hbd, fun h => absurd h (by simp only [List.length_cons]; omega), rfl⟩
        · refine pickF rfl ?_
          walk_at "sk"
          exact keep
      · refine pickF rfl ?_
        walk_at "sk"
        exact keep
    obtain ⟨v, y7, y8, sb, hv, hvb, hv9, rfl⟩ := hM
    refine Sx.less ?_ sb
    walk_at "sk"
    refine ⟨rfl, callK0 ⟨v, rfl, hv, hvb.mono (by decide), rfl, ?_⟩⟩
    walk_at "sk"
    refine o_notInD (ds := G.map V3.d) (.dat _) (.lst (by simp)) rfl shaped_ds ?_
    rw [any_d]
    have hi1 : i < 5 := by
      have := (List.getElem?_eq_some_iff.mp hk).1
      rw [List.length_map, List.length_range] at this
      omega
    refine ⟨_, rfl, fun hn => ?_, fun hn => ?_⟩
    · have hn : v.fst ∉ G := by simpa using hn
      walk_at "sk"
      refine ev_bm ?_
      walk_at "sk"
      refine ⟨.lst (ds := G.map V3.d) (by simp), ?_⟩
      walk_at "sk"
      refine om_append (ds := G.map V3.d) (j := 1) rfl (by rw [List.length_map]; have := hG.le; omega) ?_
      exact ⟨_, sub_refl _, G ++ [v.fst], by rw [List.map_append]; rfl, hG.new hn (V3.fst_norm hv) hvb.fst fun h => (hv9 h).fst, by omega, _, _, _, _, _, rfl⟩
    · have hn : v.fst ∈ G := by simpa using hn
      walk_at "sk"
      exact ⟨_, sub_refl _, G, rfl, hG.old hn, by omega, _, _, _, _, _, rfl⟩
  · obtain ⟨G, rfl, hG, hi5, y4, y5, y6, y7, y8, rfl⟩ := hI
    rw [List.length_map, List.length_range] at hG hi5
    walk_at "sk"
    exact ⟨_, sub_refl _, q x G ⟨hG.nd, hG.nm, hG.bd, Nat.le_trans hG.le hi5⟩ (hG.ne (by omega))⟩
end
end Sk


/-! La12: the law behind the jar -/
namespace Sk
open PySem PySem.Spec PyProof.Rows L2
local macro_rules | `(tactic| walk_at "sk") => `(tactic| repeat' (first
  | ((with_reducible show Ev _ (tVar _) _ _ _); refine ev_var rfl ?_) | with_reducible refine ev_int ?_ | with_reducible refine ev_bl ?_ | with_reducible refine ev_non ?_ | with_reducible refine ev_str ?_ | with_reducible refine ev_ty ?_ | with_reducible refine ev_ref ?_
  | with_reducible refine ev_op ?_ | with_reducible refine ev_un ?_ | with_reducible refine ev_cb ?_ | with_reducible refine ea_cons ?_ | with_reducible refine ea_nil ?_
  | with_reducible refine ev_if ?_ | with_reducible refine ev_and ?_ | with_reducible refine ev_or ?_ | with_reducible refine ev_not ?_ | with_reducible refine ev_tup ?_ | with_reducible refine ev_call ?_
  | with_reducible refine sx_seq ?_ | with_reducible refine sx_asg ?_ | with_reducible refine tg_name ?_ | with_reducible refine sx_ret ?_ | with_reducible refine sx_next ?_ | with_reducible refine sx_drop ?_ | with_reducible refine sx_if ?_
  | with_reducible refine et_chain ?_ | with_reducible refine et_test ?_ | with_reducible refine et_B ?_ | with_reducible refine et_not ?_ | with_reducible refine et_and ?_ | with_reducible refine et_or ?_
  | with_reducible refine o_add ?_ | with_reducible refine o_sub ?_ | with_reducible refine o_lt ?_ | with_reducible refine o_le ?_ | with_reducible refine o_gt ?_ | with_reducible refine o_ge ?_
  | with_reducible refine o_neg ?_ | with_reducible refine o_subB ?_ | with_reducible refine o_mul ?_ ?_
  | ((with_reducible show Op2 _ (rIx _) _ _ _ _); refine o_ix (.tup _) rfl ?_)
  | ((with_reducible show Op2 _ (rEqD _) _ _ _ _); (first | refine o_eqD (.dat _) (.dat _) rfl rfl ?_ | refine o_eqD (.dat _) (.dat _) (by decide +kernel) (by decide +kernel) ?_))
  | ((with_reducible show Op2 _ (rNeD _) _ _ _ _); (first | refine o_neD (.dat _) (.dat _) rfl rfl ?_ | refine o_neD (.dat _) (.dat _) (by decide +kernel) (by decide +kernel) ?_))
  | ((with_reducible show Op2 _ (rIn _ false) _ _ _ _); refine o_in (.tup _) (by rfl) (by rfl) ?_) | ((with_reducible show Op2 _ (rIn _ true) _ _ _ _); refine o_notIn (.tup _) (by rfl) (by rfl) ?_)
  | ((with_reducible show OpC _ (rIsi _) _ _ _); (first | refine oc_isi (b := true) (by rfl) ?_ | refine oc_isi (b := false) (by rfl) ?_))
  | ((with_reducible show OpC _ _ _ _ _); refine oc_len (.tup _) ?_)
  | ((with_reducible show Tg _ (gTup _ _ _) _ _ _ _); (first | with_reducible refine tg_pair ?_ | refine tg_tup rfl ?_)) | ((with_reducible show Tgs _ (gCons _ _) _ _ _ _); refine tgs_cons ?_) | ((with_reducible show Tgs _ gNil _ _ _ _); refine tgs_nil ?_)
  | ((with_reducible show ∃ ds, alld _ ds ∧ _); (first
    | refine ⟨[_, _, _], ⟨rfl, rfl, rfl, trivial⟩, Nat.le_of_ble_eq_true rfl, ?_⟩ | refine ⟨[_, _], ⟨rfl, rfl, trivial⟩, Nat.le_of_ble_eq_true rfl, ?_⟩ | refine ⟨[_], ⟨rfl, trivial⟩, Nat.le_of_ble_eq_true rfl, ?_⟩ | refine ⟨[], trivial, Nat.le_of_ble_eq_true rfl, ?_⟩
    | refine ⟨[_, _, _, _], ⟨rfl, rfl, rfl, rfl, trivial⟩, Nat.le_of_ble_eq_true rfl, ?_⟩ | refine ⟨[_, _, _, _, _], ⟨rfl, rfl, rfl, rfl, rfl, trivial⟩, Nat.le_of_ble_eq_true rfl, ?_⟩ | refine ⟨[_, _, _, _, _, _], ⟨rfl, rfl, rfl, rfl, rfl, rfl, trivial⟩, Nat.le_of_ble_eq_true rfl, ?_⟩
    | refine ⟨[_, _, _, _, _, _, _], ⟨rfl, rfl, rfl, rfl, rfl, rfl, rfl, trivial⟩, Nat.le_of_ble_eq_true rfl, ?_⟩))
  | ((with_reducible show (_ = true → _) ∧ (_ = false → _)); (first | refine pickT rfl ?_ | refine pickF rfl ?_))
  | ((with_reducible show ∃ _, Kn.dat (PyData.bool _) = Kn.dat (PyData.bool _) ∧ _); refine ⟨_, rfl, ?_⟩)
  | ((with_reducible show ∃ _, Kn.dat _ = Kn.dat _ ∧ _); refine ⟨_, rfl, ?_⟩) | fail))

section
variable {P : Program} {w : World} {K : PySem.W.Frag} {mg : Str → Option Value} {base : Heap} {f : Addr} {fd : FuncData} {C : Addr}

theorem look_nil_len {Ps : List V3} {kvs : Kv} (h : RC Ps kvs) (h0 : Ps.length = 0) : (keys kvs).length ≤ 1 := by
  have hP : Ps = [] := List.eq_nil_of_length_eq_zero h0
  subst hP
  exact nodup_le (m := [[]]) h.nd fun k hk => by
    obtain ⟨r, _, _, e⟩ := h.at hk
    rw [e]; simp [sg]
/-- the sky's own part, the other part -/
theorem PartA.own {sky : Tr} {L : List Rw} {R : List V3} (hR : Pl R) (hd : Drawn R 4 15 sky) (sc : SC sky.plV L) : PartA sky sky true L (mine sky L) (L.filter fun k => !sky.hK sky.plV k) where
  ok := ⟨hd.fit, Nat.le_trans hd.dep (by decide), Nat.le_trans hd.few (by decide)⟩
  pl := Tr.plV_pl hR hd.on
  sc := sc
  ei := rfl
  eo := rfl
  fit := hd.fit
  dep := Nat.le_trans hd.dep (by decide)
  so := fun r _ h => by
    have h2 := (List.mem_filter.mp h).2
    rw [← Tr.hK_holds hd.fit (P := sky.plV) (r := r) fun v hv => Tr.mem_plV.mpr ⟨v, hv, rfl⟩]
    exact h2
theorem PartA.rest {sky : Tr} {L : List Rw} {R : List V3} (hR : Pl R) (hd : Drawn R 4 15 sky) (sc : SC sky.plV L) : PartA (.not sky.red) sky false L (L.filter fun k => !sky.hK sky.plV k) (mine sky L) where
  ok := by
    have h : TOk 7 sky := ⟨hd.fit, Nat.le_trans hd.dep (by decide), Nat.le_trans hd.few (by decide)⟩
    exact h.not
  pl := by rw [Tr.plV_red hd.fit]; exact Tr.plV_pl hR hd.on
  sc := by rw [Tr.plV_red hd.fit]; exact sc
  ei := List.filter_congr fun k _ => by rw [Tr.plV_red hd.fit, Tr.hK_not hd.fit]
  eo := List.filter_congr fun k _ => by rw [Tr.plV_red hd.fit, Tr.hK_not hd.fit, Bool.not_not]
  fit := hd.fit
  dep := Nat.le_trans hd.dep (by decide)
  so := fun r _ h => by
    rw [Tr.plV_red hd.fit] at h
    have h2 := (List.mem_filter.mp h).2
    rw [← Tr.hK_holds hd.fit (P := sky.plV) (r := r) fun v hv => Tr.mem_plV.mpr ⟨v, hv, rfl⟩]
    simpa using h2
def w_lright : WT := fun ks O Φ => ∃ p : Addr, ks = [.ptr p] ∧ O = [(p, .jar)] ∧ Φ (.dat (.bool true)) []
theorem cl_law_right (T : Bt mg) (L : LotC P w K mg C) (F : Df K mg "_law_right" s_law_right f fd) (M_Lot : MkL P w K mg base C 13 (w_init C)) (C_law_rims : Cl P w K mg base "_law_rims" 4 3 w_lrims) (C_law_one : Cl P w K mg base "_law_one" 2 2 w_lone) (C_law_sky : Cl P w K mg base "_law_sky" 9 2 w_lsky)
    (C_law_cells : Cl P w K mg base "_law_cells" 4 1 w_lcells) (C_law_planes : Cl P w K mg base "_law_planes" 10 1 (w_lplanes 6)) (C_law_in : Cl P w K mg base "_law_in" 8 2 (w_lin 6)) (C_law_part_right : ClG P w K mg base "_law_part_right" 17 5 (w_lpart C)) (C_rest : Cl P w K mg base "rest" 16 1 (w_rest C))
    (CK_cells_of : ClK P w K mg base "cells_of" "lot" 15 (w_cells_of C)) (CK_is_empty : ClK P w K mg base "is_empty" "lot" 16 (w_is_empty C)) : ClG P w K mg base "_law_right" 18 1 w_lright := by
  have nd := sc_law_right.nd
  refine clG_of 17 1 F sc_law_right rfl (fun _ _ _ _ _ _ us hl => match us, hl with | [_], _ => rfl) fun cdv A outer s H E hr hgd => ⟨_, (pss_cons (ps_set (i := 1) nd rfl (Or.inl rfl) (pe_cl C_law_rims (hr.mono (by decide)) (by rfl) (pa_cons (pv 0) (pa_cons (pe_cl C_law_one (hr.mono (by decide)) (by rfl) (pa_cons (pv 0) (pa_cons (pe_lst (pa_cons pe_int (pa_cons pe_int (pa_cons pe_int (pa_cons pe_int (pa_cons pe_int (pa_cons pe_int (pa_cons pe_int pa_nil)))))))) pa_nil))) (pa_cons (pe_cl C_law_one (hr.mono (by decide)) (by rfl) (pa_cons (pv 0) (pa_cons (pe_lst (pa_cons pe_int (pa_cons pe_int (pa_cons pe_int (pa_cons pe_int (pa_cons pe_int (pa_cons pe_int pa_nil))))))) pa_nil))) pa_nil)))))
      (pss_cons (ps_set (i := 2) nd rfl (Or.inl rfl) (pe_cl C_law_sky (hr.mono (by decide)) (by rfl) (pa_cons (pv 0) (pa_cons (pv 1) pa_nil))))
      (pss_cons (ps_asg (pe_tup (pa_cons (pe_mkLot M_Lot (hr.mono (by decide)) (by rfl) (pa_cons (pv 2) pa_nil)) (pa_cons (pe_cl C_law_cells (hr.mono (by decide)) (by rfl) (pa_cons (pe_cl C_law_planes (hr.mono (by decide)) (by rfl) (pa_cons (pv 2) pa_nil)) pa_nil)) (pa_cons (pe_lst pa_nil) (pa_cons (pe_lst pa_nil) pa_nil))))) (kgTup (K := K) (n := 4) rfl (pgs_cons (pg_name (i := 3) nd rfl (Or.inl rfl)) (pgs_cons (pg_name (i := 4) nd rfl (Or.inl rfl)) (pgs_cons (pg_name (i := 5) nd rfl (Or.inl rfl)) (pgs_cons (pg_name (i := 6) nd rfl (Or.inl rfl)) pgs_nil))))))
      (pss_cons (ps_for PassesOwn.never rfl (kList (K := K) (pe_callB (kSorted (K := K) rfl hr.units) (by rfl) T.sorted_ (by decide +kernel) (pa_cons (pe_callTy (call_list_dT rfl) (by rfl) T.list_ (by decide +kernel) (pa_cons (pv 4) pa_nil)) pa_nil))) (pg_name (i := 7) nd rfl (Or.inl rfl)) (pss_one (ps_if (pt_val (pe_cl C_law_in (hr.mono (by decide)) (by rfl) (pa_cons (pv 2) (pa_cons (pe_dget (hu_of hr) (pv 4) (pv 7) (fun _ _ => rfl)) pa_nil)))) (pss_one (ps_expr (kBM (K := K) PySem.F.plainAttrs_list PySem.F.slot_list_append PySem.F.type_list_append mt_append (pv 5) (pa_cons (pv 7) pa_nil)))) (pss_one (ps_expr (kBM (K := K) PySem.F.plainAttrs_list PySem.F.slot_list_append PySem.F.type_list_append mt_append (pv 6) (pa_cons (pv 7) pa_nil)))))))
      (pss_cons (ps_if (PW.pt (pw_or (pt_not (pt_val (pe_clG C_law_part_right (hr.mono (by decide)) hgd (by rfl) (pa_cons (pv 3) (pa_cons (pv 2) (pa_cons (pv 5) (pa_cons (pv 6) (pa_cons pe_bl pa_nil)))))))) (pw_or1 (pt_not (pt_val (pe_clG C_law_part_right (hr.mono (by decide)) hgd (by rfl) (pa_cons (pe_cl C_rest (hr.mono (by decide)) (by rfl) (pa_cons (pv 3) pa_nil)) (pa_cons (pv 2) (pa_cons (pv 6) (pa_cons (pv 5) (pa_cons pe_bl pa_nil))))))))))) (pss_one (ps_ret pe_bl)) pss_nil)
      (pss_one (ps_ret (pe_cmpR op_eq (pe_callB (kRepr (K := K) hgd hr.units) (by rfl) T.repr_ (by decide +kernel) (pa_cons (pe_lst (pa_cons (pe_clK CK_cells_of (hr.mono (by decide)) (by rfl) (pv 3)) (pa_cons (pe_clK CK_is_empty (hr.mono (by decide)) (by rfl) (pv 3)) pa_nil))) pa_nil)) (pe_callB (kRepr (K := K) hgd hr.units) (by rfl) T.repr_ (by decide +kernel) (pa_cons (pe_lst (pa_cons (pe_callTy (kTupleOf (K := K)) (by rfl) T.tuple_ (by decide +kernel) (pa_cons (pv 5) pa_nil)) (pa_cons (pe_cmpR (kEqD (K := K) hr.units) (pv 5) (pe_lst pa_nil) (nomark _)) pa_nil))) pa_nil)) (nomark _))))))))), ?_⟩
  intro B ks O Φ hl ⟨p, e1, e2, q⟩
  subst e1 e2
  walk_at "sk"
  refine ev_lst ?_
  walk_at "sk"
  intro g
  refine ea_nil ?_
  refine ⟨rfl, [(p, .jar), (g, _)], [], .swap .., p, g, _, rfl, by decide, by decide, rfl, fun d hd => ?_⟩
  have hd2 : ∃ c : Int, d = .int c ∧ 1 ≤ c ∧ c ≤ 5 := by
    simp only [List.mem_cons, List.not_mem_nil, or_false] at hd
    rcases hd with rfl | rfl | rfl | rfl | rfl | rfl | rfl
    all_goals exact ⟨_, rfl, by decide, by decide⟩
  obtain ⟨m, rfl, hm1, hm5⟩ := hd2
  walk_at "sk"
  refine ev_lst ?_
  walk_at "sk"
  intro g2
  refine ea_nil ?_
  refine ⟨rfl, [(p, .jar), (g2, _)], _, (List.Perm.swap ..), p, g2, _, rfl, by decide, by decide, rfl, fun d hd => ?_⟩
  have hd2 : ∃ c : Int, d = .int c ∧ 1 ≤ c ∧ c ≤ 999 := by
    simp only [List.mem_cons, List.not_mem_nil, or_false] at hd
    rcases hd with rfl | rfl | rfl | rfl | rfl | rfl
    all_goals exact ⟨_, rfl, by decide, by decide⟩
  obtain ⟨h, rfl, hh1, hh9⟩ := hd2
  walk_at "sk"
  refine ⟨rfl, [(p, .jar)], _, .refl _, p, m, h, rfl, hm1, hm5, hh1, hh9, rfl, fun x R hR hne => ?_⟩
  refine tg_name ?_
  refine Sx.less (O' := [(p, .jar), (x, .lst (R.map V3.d))]) ?_ ⟨[(g2, _), (g, _)], .refl _⟩
  walk_at "sk"
  refine ⟨rfl, [(p, .jar), (x, .lst (R.map V3.d))], [], .refl _, p, x, R, rfl, hR, hne, rfl, fun sky hd => ?_⟩
  have hPl : Pl sky.plV := Tr.plV_pl hR hd.on
  have h5 := hPl.le
  have hdep : sky.dep ≤ 6 := Nat.le_trans hd.dep (by decide)
  have hfew : sky.leaves.length ≤ 24 := Nat.le_trans hd.few (by decide)
  refine tg_name ?_
  refine sx_seq ?_
  refine sx_par ?_
  walk_at "sk"
  refine ev_make ?_
  walk_at "sk"
  refine ⟨rfl, fun lo => ⟨[(lo, .ins C [])], _, .refl _, sky, lo, rfl, ⟨hd.fit, hdep, hfew⟩, by omega, rfl, rfl, ?_⟩⟩
  walk_at "sk"
  refine ⟨rfl, callK0 ⟨sky, rfl, hd.fit, hdep, hfew, rfl, fun y => ?_⟩⟩
  walk_at "sk"
  refine ⟨rfl, [(y, .lst (sky.plV.map V3.d))], _, .refl _, sky.plV, y, rfl, hPl, rfl, fun t kvs hC => ?_⟩
  walk_at "sk"
  refine ev_lst ?_
  walk_at "sk"
  intro ia
  walk_at "sk"
  refine ev_lst ?_
  walk_at "sk"
  intro oa
  refine ea_nil ?_
  refine ⟨rfl, by show 4 ≤ 100000; decide, ?_⟩
  walk_at "sk"
  refine sx_for (ei_less (ei_list ?_))
  walk_at "sk"
  refine oc_listD (kvs := kvs) (.dic (by simp)) fun l => ?_
  walk_at "sk"
  have ek : (kvs.map fun kv => tupI kv.1) = (keys kvs).map tupI := by unfold keys; rw [List.map_map]; rfl
  have hkl : ∀ k ∈ keys kvs, k.length = sky.plV.length := fun k hk => by
    obtain ⟨r, _, _, e⟩ := hC.rc.at hk
    rw [e, sg_len]
  refine oc_sorted (ks := keys kvs) (n := sky.plV.length) (.lst (by rw [← ek]; simp)) hkl (by
    rcases Nat.eq_zero_or_pos sky.plV.length with h | h
    · exact .inr (look_nil_len hC.rc h)
    · exact .inl (by omega)) fun s => ?_
  obtain ⟨L, hL⟩ : ∃ L, Nw.sortI (keys kvs) = L := ⟨_, rfl⟩
  have hsc : SC sky.plV L := ⟨kvs, hC, hL.symm⟩
  have hLk : ∀ k, k ∈ L ↔ k ∈ keys kvs := fun k => by rw [← hL]; exact mem_sortI
  have hLfew := hsc.few h5
  rw [hL]
  refine ⟨s, L.map tupI, rfl, List.mem_cons_self .., [(s, .lst (L.map tupI)), (oa, .lst ((([] : List Rw).filter fun k => !sky.hK sky.plV k).map tupI)), (ia, .lst ((([] : List Rw).filter (sky.hK sky.plV)).map tupI)), (t, .dic kvs), (lo, .ins C (lotF sky))], sub_keep (sub_cons (sub_keep (sub_keep (sub_keep (sub_keep (sub_nil _)))))), fun i ρ' O' => O' = [(s, .lst (L.map tupI)), (oa, .lst (((L.take i).filter fun k => !sky.hK sky.plV k).map tupI)), (ia, .lst (((L.take i).filter (sky.hK sky.plV)).map tupI)), (t, .dic kvs), (lo, .ins C (lotF sky))] ∧ ∃ y, ρ' = [some (.ptr p), some (.ptr x), some (.dat sky.d), some (.ptr lo), some (.ptr t), some (.ptr ia), some (.ptr oa), y],
    ⟨rfl, _, rfl⟩, fun i ρ' O' _ hI q hq => ?_, fun i k ρ' O' hk hI => ?_, fun ρ' O' hI => ?_⟩
  · obtain ⟨rfl, _⟩ := hI
    rw [List.mem_singleton] at hq
    rw [hq]
    exact List.mem_cons_self ..
  · obtain ⟨rfl, y, rfl⟩ := hI
    rw [List.getElem?_map, List.getElem?_map] at hk
    cases hm : L[i]? with
    | none => rw [hm] at hk; cases hk
    | some m =>
      rw [hm] at hk
      cases hk
      obtain ⟨r, hlk, hr, em⟩ := hC.rc.at ((hLk m).mp (List.mem_of_getElem? hm))
      have et : L.take (i + 1) = L.take i ++ [m] := by rw [List.take_add_one, hm]; rfl
      have eh : sky.holds r = sky.hK sky.plV m := by
        rw [em]
        exact (Tr.hK_holds hd.fit (P := sky.plV) (r := r) fun v hv => Tr.mem_plV.mpr ⟨v, hv, rfl⟩).symm
      have hfl : ∀ c : Rw → Bool, ((L.take i).filter c).length < 100000 := fun c => by
        have h1 := List.length_filter_le c (L.take i)
        rw [List.length_take] at h1
        omega
      refine tg_name ?_
      walk_at "sk"
      refine ev_dget ?_
      walk_at "sk"
      refine ⟨kvs, m, r.d, .dic (by simp), rfl, hlk, ?_⟩
      walk_at "sk"
      refine ⟨rfl, callK0 ⟨sky, r, rfl, hd.fit, hdep, rfl, ?_⟩⟩
      rw [eh]
      refine ⟨_, rfl, fun h => ?_, fun h => ?_⟩
      · walk_at "sk"
        refine ev_bm ?_
        walk_at "sk"
        refine ⟨.lst (ds := ((L.take i).filter (sky.hK sky.plV)).map tupI) (by simp), ?_⟩
        walk_at "sk"
        refine om_append (ds := ((L.take i).filter (sky.hK sky.plV)).map tupI) (j := 2) rfl (by rw [List.length_map]; exact hfl _) ?_
        refine ⟨_, sub_refl _, ?_, _, rfl⟩
        rw [et, List.filter_append, List.filter_append, List.map_append, List.map_append]
        simp [h]
      · walk_at "sk"
        refine ev_bm ?_
        walk_at "sk"
        refine ⟨.lst (ds := ((L.take i).filter fun k => !sky.hK sky.plV k).map tupI) (by simp), ?_⟩
        walk_at "sk"
        refine om_append (ds := ((L.take i).filter fun k => !sky.hK sky.plV k).map tupI) (j := 1) rfl (by rw [List.length_map]; exact hfl _) ?_
        refine ⟨_, sub_refl _, ?_, _, rfl⟩
        rw [et, List.filter_append, List.filter_append, List.map_append, List.map_append]
        simp [h]
  · obtain ⟨rfl, y, rfl⟩ := hI
    rw [List.length_map, List.length_map, List.take_length]
    have hA := PartA.own hR hd hsc
    have hA2 := PartA.rest hR hd hsc
    obtain ⟨ins, hins⟩ : ∃ ins, mine sky L = ins := ⟨_, rfl⟩
    obtain ⟨outs, houts⟩ : ∃ outs, (L.filter fun k => !sky.hK sky.plV k) = outs := ⟨_, rfl⟩
    have hins2 : L.filter (sky.hK sky.plV) = ins := hins
    rw [hins, houts] at hA hA2
    rw [hins2, houts]
    have hil : ins.length ≤ 243 := by
      rw [← hins]
      exact Nat.le_trans (List.length_filter_le _ _) hLfew
    refine Sx.less (O' := [(lo, .ins C (lotF sky)), (ia, .lst (ins.map tupI)), (oa, .lst (outs.map tupI))]) ?_ ⟨[(t, .dic kvs), (s, .lst (L.map tupI))], (List.reverse_perm [_, _, _, _, _]).symm.trans (.cons _ (List.perm_append_comm_assoc [_] [_, _] [_]))⟩
    walk_at "sk"
    refine ⟨rfl, [(lo, .ins C (lotF sky)), (ia, .lst (ins.map tupI)), (oa, .lst (outs.map tupI))], [], .refl _, sky, sky, true, L, ins, outs, lo, ia, oa, rfl, hA, rfl, ?_⟩
    walk_at "sk"
    refine ⟨rfl, [(lo, .ins C (lotF sky))], _, .refl _, sky, lo, rfl, ⟨hd.fit, hdep, hfew⟩, rfl, fun ro => ?_⟩
    walk_at "sk"
    refine ⟨rfl, [(ro, .ins C (lotF (.not sky.red))), (oa, .lst (outs.map tupI)), (ia, .lst (ins.map tupI))], [(lo, .ins C (lotF sky))], .cons _ (List.reverse_perm [_, _, _]).symm, .not sky.red, sky, false, L, outs, ins, ro, oa, ia, rfl, hA2, rfl, ?_⟩
    walk_at "sk"
    refine Ev.less (O' := [(lo, .ins C (lotF sky)), (ia, .lst (ins.map tupI))]) ?_ ⟨[(oa, .lst (outs.map tupI)), (ro, .ins C (lotF (.not sky.red)))], (List.reverse_perm [_, _, _, _]).symm⟩
    have hla : LotA C sky lo [.ptr lo] [(lo, .ins C (lotF sky))] := ⟨rfl, rfl, ⟨hd.fit, Nat.le_trans hdep (by decide), hfew⟩, hPl⟩
    have hsh : Showy (.list (.tuple (ins.map tupI) :: [ins.isEmpty].map PyData.bool)) := showy_of (fun k hk => by
      rw [← hins] at hk
      obtain ⟨r, _, rfl⟩ := hsc.facts.2 k (List.mem_filter.mp hk).1
      exact ⟨sg_signs _ _, by rw [sg_len]; exact h5⟩) hil (by show 1 ≤ 5; decide)
    have hlc : ∀ {kvs : Kv}, LC sky kvs → keys kvs = ins := fun h => by rw [h.tups hsc, hins]
    walk_at "sk"
    refine ev_lst ?_
    walk_at "sk"
    refine ⟨rfl, [(lo, .ins C (lotF sky))], _, .refl _, sky, lo, hla, fun kvs1 hl1 => ?_⟩
    rw [hlc hl1]
    walk_at "sk"
    refine ⟨rfl, [(lo, .ins C (lotF sky))], _, .refl _, sky, lo, hla, fun kvs2 hl2 => ?_⟩
    rw [hlc hl2]
    walk_at "sk"
    intro g3
    refine ea_nil ?_
    refine oc_repr (.lst (List.mem_cons_self ..)) hsh.sh hsh.nd hsh.dp hsh.le (fun v H h => ⟨_, h⟩) ?_
    walk_at "sk"
    refine ev_lst ?_
    walk_at "sk"
    refine oc_tuple (ds := ins.map tupI) (.lst (by simp)) (by rw [List.length_map]; omega) ?_
    walk_at "sk"
    refine ev_lst ?_
    walk_at "sk"
    intro e
    refine o_eqD (.lst (xs := ins.map tupI) (by simp)) (.lst (List.mem_cons_self ..)) shaped_rows (by decide +kernel) ?_
    rw [eqv_nil, show (ins.map tupI).isEmpty = ins.isEmpty by cases ins <;> rfl]
    walk_at "sk"
    intro g4
    refine ea_nil ?_
    refine oc_repr (.lst (List.mem_cons_self ..)) hsh.sh hsh.nd hsh.dp hsh.le (fun v H h => ⟨_, h⟩) ?_
    refine o_eqS ?_
    rw [decide_eq_true rfl]
    exact ⟨[], sub_nil _, q⟩
end
end Sk


/-! La13: the jar; the law -/
namespace Sk
open PySem PySem.Spec PyProof.Rows L2
local macro_rules | `(tactic| walk_at "sk") => `(tactic| repeat' (first
  | ((with_reducible show Ev _ (tVar _) _ _ _); refine ev_var rfl ?_) | with_reducible refine ev_int ?_ | with_reducible refine ev_bl ?_ | with_reducible refine ev_non ?_ | with_reducible refine ev_str ?_ | with_reducible refine ev_ty ?_ | with_reducible refine ev_ref ?_
  | with_reducible refine ev_op ?_ | with_reducible refine ev_un ?_ | with_reducible refine ev_cb ?_ | with_reducible refine ea_cons ?_ | with_reducible refine ea_nil ?_
  | with_reducible refine ev_if ?_ | with_reducible refine ev_and ?_ | with_reducible refine ev_or ?_ | with_reducible refine ev_not ?_ | with_reducible refine ev_tup ?_ | with_reducible refine ev_call ?_
  | with_reducible refine sx_seq ?_ | with_reducible refine sx_asg ?_ | with_reducible refine tg_name ?_ | with_reducible refine sx_ret ?_ | with_reducible refine sx_next ?_ | with_reducible refine sx_drop ?_ | with_reducible refine sx_if ?_
  | with_reducible refine et_chain ?_ | with_reducible refine et_test ?_ | with_reducible refine et_B ?_ | with_reducible refine et_not ?_ | with_reducible refine et_and ?_ | with_reducible refine et_or ?_
  | with_reducible refine o_add ?_ | with_reducible refine o_sub ?_ | with_reducible refine o_lt ?_ | with_reducible refine o_le ?_ | with_reducible refine o_gt ?_ | with_reducible refine o_ge ?_
  | with_reducible refine o_neg ?_ | with_reducible refine o_subB ?_ | with_reducible refine o_mul ?_ ?_
  | ((with_reducible show Op2 _ (rIx _) _ _ _ _); refine o_ix (.tup _) rfl ?_)
  | ((with_reducible show Op2 _ (rEqD _) _ _ _ _); (first | refine o_eqD (.dat _) (.dat _) rfl rfl ?_ | refine o_eqD (.dat _) (.dat _) (by decide +kernel) (by decide +kernel) ?_))
  | ((with_reducible show Op2 _ (rNeD _) _ _ _ _); (first | refine o_neD (.dat _) (.dat _) rfl rfl ?_ | refine o_neD (.dat _) (.dat _) (by decide +kernel) (by decide +kernel) ?_))
  | ((with_reducible show Op2 _ (rIn _ false) _ _ _ _); refine o_in (.tup _) (by rfl) (by rfl) ?_) | ((with_reducible show Op2 _ (rIn _ true) _ _ _ _); refine o_notIn (.tup _) (by rfl) (by rfl) ?_)
  | ((with_reducible show OpC _ (rIsi _) _ _ _); (first | refine oc_isi (b := true) (by rfl) ?_ | refine oc_isi (b := false) (by rfl) ?_))
  | ((with_reducible show OpC _ _ _ _ _); refine oc_len (.tup _) ?_)
  | ((with_reducible show Tg _ (gTup _ _ _) _ _ _ _); (first | with_reducible refine tg_pair ?_ | refine tg_tup rfl ?_)) | ((with_reducible show Tgs _ (gCons _ _) _ _ _ _); refine tgs_cons ?_) | ((with_reducible show Tgs _ gNil _ _ _ _); refine tgs_nil ?_)
  | ((with_reducible show ∃ ds, alld _ ds ∧ _); (first
    | refine ⟨[_, _, _], ⟨rfl, rfl, rfl, trivial⟩, Nat.le_of_ble_eq_true rfl, ?_⟩ | refine ⟨[_, _], ⟨rfl, rfl, trivial⟩, Nat.le_of_ble_eq_true rfl, ?_⟩ | refine ⟨[_], ⟨rfl, trivial⟩, Nat.le_of_ble_eq_true rfl, ?_⟩ | refine ⟨[], trivial, Nat.le_of_ble_eq_true rfl, ?_⟩
    | refine ⟨[_, _, _, _], ⟨rfl, rfl, rfl, rfl, trivial⟩, Nat.le_of_ble_eq_true rfl, ?_⟩ | refine ⟨[_, _, _, _, _], ⟨rfl, rfl, rfl, rfl, rfl, trivial⟩, Nat.le_of_ble_eq_true rfl, ?_⟩ | refine ⟨[_, _, _, _, _, _], ⟨rfl, rfl, rfl, rfl, rfl, rfl, trivial⟩, Nat.le_of_ble_eq_true rfl, ?_⟩
    | refine ⟨[_, _, _, _, _, _, _], ⟨rfl, rfl, rfl, rfl, rfl, rfl, rfl, trivial⟩, Nat.le_of_ble_eq_true rfl, ?_⟩))
  | ((with_reducible show (_ = true → _) ∧ (_ = false → _)); (first | refine pickT rfl ?_ | refine pickF rfl ?_))
  | ((with_reducible show ∃ _, Kn.dat (PyData.bool _) = Kn.dat (PyData.bool _) ∧ _); refine ⟨_, rfl, ?_⟩)
  | ((with_reducible show ∃ _, Kn.dat _ = Kn.dat _ ∧ _); refine ⟨_, rfl, ?_⟩) | fail))

section
variable {P : Program} {w : World} {K : PySem.W.Frag} {mg : Str → Option Value} {base : Heap} {f : Addr} {fd : FuncData} {B : Bs}

/-- a list of ints that stood there at the start, and is no object of ours -/
structure Scr (K : PySem.W.Frag) (B : Bs) (a : Addr) (ns : List Int) : Prop where
  at0 : SqL K B.H0 a (ns.map V.int)
  ne : a ∉ B.A
theorem Scr.now {a : Addr} {ns : List Int} {H : Hp} {σ : L2.St} {ρ : Sl} {O : Cs} {τ : List (V × Kn)} (h : Scr K B a ns) (R : Rs B H σ ρ O τ) : SqL K H a (ns.map V.int) := by
  rcases h.at0 with e | e
  · refine .inl ?_
    rcases e with e | ⟨od, e⟩
    · exact .inl (R.grow a _ e h.ne)
    · exact .inr ⟨od, R.grow a _ e h.ne⟩
  · exact .inr e
theorem oc_lenS {a : Addr} {ns : List Int} {O : Cs} {Φ : Kn → Cs → Prop} (h : Scr K B a ns) (q : Φ (.dat (.int ns.length)) O) : OpC B (fun xs H Q => ∃ p ys, xs = [.ref p] ∧ (SqL K H p ys ∨ SqT K H p ys) ∧ Q (.int ys.length) H) [.ptr a] O Φ := fun σ ρ H τ F vs hl hv R Q hQ => by
  match vs, hl with
  | [v], _ =>
    have e : v = .ref a := hv (v, .ptr a) (by simp)
    subst e
    refine ⟨a, ns.map V.int, rfl, .inl (h.now R), ?_⟩
    rw [List.length_map]
    exact hQ _ _ _ _ q (R.push (.int _))
theorem o_ixS {a : Addr} {ns : List Int} {n z : Int} {O : Cs} {Φ : Kn → Cs → Prop} (h : Scr K B a ns) (ha : atI ns n = some z) (q : Φ (.dat (.int z)) O) : Op2 B (rIx K) (.ptr a) (.dat (.int n)) O Φ := fun σ ρ H τ F v w hv hw R Q hQ => by
  cases hw
  have e : v = .ref a := hv
  subst e
  refine .inl ⟨a, ns.map V.int, n, .int z, rfl, rfl, h.now R, ?_, hQ _ _ _ _ q (R.push (.int _))⟩
  unfold atI at ha ⊢
  obtain ⟨j, hj, hd⟩ := Option.bind_eq_some_iff.mp ha
  rw [List.length_map, hj]
  show (ns.map V.int)[j]? = _
  rw [List.getElem?_map, hd]; rfl
theorem ev_slS {ρ : Sl} {O : Cs} {Φ : Kn → Cs → Prop} {te : TE} {tl th : TO} (h : Ev B te ρ O fun x O1 => ∃ a ns, x = .ptr a ∧ Scr K B a ns ∧ EvO B tl ρ O1 fun lo O2 => EvO B th ρ O2 fun hi O3 => ∀ p, Φ (.ptr p) ((p, .lst (cutD (ns.map PyData.int) lo hi)) :: O3)) : Ev B (tSl (rSlL K) te tl th) ρ O Φ := fun σ H τ F R Q hQ =>
  h σ H τ F R _ fun v H1 x O1 ⟨a, ns, e, hs, h1⟩ R1 => h1 σ H1 _ F R1 _ fun lo H2 O2 h2 R2 => h2 σ H2 _ F R2 _ fun hi H3 O3 q R3 => by
    subst e
    have e : v = .ref a := R3.top
    subst e
    refine ⟨a, ns.map V.int, rfl, hs.now R3, fun p hp => hQ _ _ _ _ (q p) ?_⟩
    refine Rs.push ((R3.pop).lay (c := .lst (cutD (ns.map PyData.int) lo hi)) _ hp ⟨_, upd_same, ?_⟩) rfl
    unfold cutV cutD
    rw [List.length_map, List.length_map]
    exact ((DtL.of_ints ns).drop _).take _
/-- a body run from a heap of which it owns nothing -/
theorem sx_run {t : TS} {N : List Str} {vs : List V} {ks : List Kn} {H : Hp} {Q : VK} {Φ : Kn → Cs → Prop} (hl : vs.length = ks.length) (hv : ∀ q ∈ vs.zip ks, q.2.h H q.1) (h : Sx ⟨[], H⟩ t (ks.map some ++ List.replicate (N.length - ks.length) none) [] (endsOf Φ)) (hk : ks.length ≤ N.length)
    (hQ : ∀ v H' k O, Φ k O → k.h H' v → Grow [] H H' → (∀ q ∈ O, q.2.h H' q.1) → (∀ q ∈ O, H q.1 = none) → Q v H') : t { nx := fun _ H' => Q .non H', rt := Q } (L2.start N vs) H := by
  have R0 : Rs ⟨[], H⟩ H (L2.start N vs) (ks.map some ++ List.replicate (N.length - ks.length) none) [] [] := by
    refine ⟨.refl _ _, ?_, ?_, (fun q hq => nomatch hq), (fun q hq => nomatch hq), List.nodup_nil, fun q hq => nomatch hq⟩
    · unfold L2.start
      rw [List.length_append, List.length_append, List.length_map, List.length_map, List.length_replicate, List.length_replicate]
      omega
    · intro i k e
      unfold L2.start
      rw [hl]
      exact slots_start hl hv _ i k e
  have own : ∀ {O : Cs} {H' : Hp} {σ : L2.St} {ρ : Sl} {τ : List (V × Kn)}, Rs ⟨[], H⟩ H' σ ρ O τ → ∀ q ∈ O, H q.1 = none := fun R q hq => (R.own q hq).resolve_left fun z => nomatch z
  refine h (L2.start N vs) H [] [] _ R0 ⟨fun σ H' ρ O' h R => ?_, fun v H' σ ρ k O' h R => ?_, fun _ _ _ _ h => h.elim, fun _ _ _ _ h => h.elim⟩
  · obtain ⟨O2, sb, h⟩ := h
    have R := R.less sb
    rw [List.append_nil] at R
    exact hQ .non H' (.dat .none) O2 h .non R.grow R.cell (own R)
  · obtain ⟨O2, sb, h⟩ := h
    have R := R.less sb
    rw [List.append_nil] at R
    exact hQ v H' k O2 h R.top R.grow R.cell (own R)
def spJar (K : PySem.W.Frag) : Sp := fun vs H Q _ => ∃ (a : Addr) (ns : List Int), vs = [.ref a, .int 0] ∧ SqL K H a (ns.map V.int) ∧ ns.length ≤ 63 ∧ ∀ H' p (x y z : Int), Grow [] H H' → H p = none → H' p = some (.lst [.int x, .int y, .int z]) → Q (.ref p) H'
theorem jar_sx {a : Addr} {ns : List Int} {H : Hp} (hs : Scr K ⟨[], H⟩ a ns) (h63 : ns.length ≤ 63) {t : TS} (ht : ∀ Φ : Kn → Cs → Prop, (∀ p, Φ (.ptr p) [(p, .jar)]) → Sx ⟨[], H⟩ t [some (.ptr a), some (.dat (.int 0)), none, none, none, none] [] (endsOf Φ)) :
    ∀ Q : VK, (∀ H' p (x y z : Int), Grow [] H H' → H p = none → H' p = some (.lst [.int x, .int y, .int z]) → Q (.ref p) H') → t { nx := fun _ H' => Q .non H', rt := Q } (L2.start N_law_jar [.ref a, .int 0]) H := fun Q q => by
  refine sx_run (ks := [.ptr a, .dat (.int 0)]) (Φ := fun k O => ∃ p, k = .ptr p ∧ O = [(p, .jar)]) rfl (fun q hq => ?_) (ht _ fun p => ⟨p, rfl, rfl⟩) (by show 2 ≤ 6; decide) fun v H' k O h hk g hc hn => ?_
  · simp only [List.zip_cons_cons, List.zip_nil_right, List.mem_cons, List.not_mem_nil, or_false] at hq
    rcases hq with rfl | rfl
    · exact (rfl : V.ref a = .ref a)
    · exact Dt.int 0
  · obtain ⟨p, rfl, rfl⟩ := h
    have e : v = .ref p := hk
    subst e
    obtain ⟨x, y, z, e⟩ := hc (p, .jar) (by simp)
    exact q H' p x y z g (hn (p, .jar) (by simp)) e
theorem ok_jar (T : Bt mg) (F : Df K mg "_law_jar" s_law_jar f fd) : FnOk P w K mg base CX0 1 f fd ["_law_script", "_law_turn"] (spJar K) := by
  have nd := sc_law_jar.nd
  refine F.fn.ok sc_law_jar (fun vs H Q E h => by obtain ⟨a, ns, rfl, _⟩ := h; rfl) fun cdv A outer s H vs Q E hr h => ⟨_, (pss_cons (ps_set (i := 2) nd rfl (Or.inl rfl) (pe_op op_add pe_int (pe_op op_mul pe_int (pv 1))))
      (pss_cons (ps_for PassesOwn.never rfl (kList (K := K) (pe_slice sl_list (pv 0) po_none (po_some pe_int))) (pg_name (i := 3) nd rfl (Or.inl rfl)) (pss_one (ps_set (i := 2) nd rfl (Or.inl rfl) (pe_op op_mod (pe_callTy call_int1 (by rfl) T.int_ (by decide +kernel) (pa_cons (pe_op op_add (pe_op op_add (pe_op op_mul (pv 2) pe_int) (pe_op op_mod (pe_callTy call_int1 (by rfl) T.int_ (by decide +kernel) (pa_cons (pv 3) pa_nil)) pe_int)) pe_int) pa_nil)) pe_int))))
      (pss_cons (ps_set (i := 4) nd rfl (Or.inl rfl) (pe_ifExp (pt_cmpR op_lt (pv 1) (pe_callB (kLen (K := K)) (by rfl) T.len_ (by decide +kernel) (pa_cons (pv 0) pa_nil)) (nomark _)) (pe_callB call_abs (by rfl) T.abs_ (by decide +kernel) (pa_cons (pe_callTy call_int1 (by rfl) T.int_ (by decide +kernel) (pa_cons (pe_ix (kIx (K := K)) (pv 0) (pv 1) (fun _ _ => rfl)) pa_nil)) pa_nil)) pe_int))
      (pss_cons (ps_set (i := 5) nd rfl (Or.inl rfl) (pe_ifExp (pt_cmpR op_ge (pv 4) (pe_op op_pow pe_int pe_int) (nomark _)) (pv 4) pe_int))
      (pss_one (ps_ret (pe_lst (pa_cons (pv 5) (pa_cons (pe_op op_mod (pe_callTy call_int1 (by rfl) T.int_ (by decide +kernel) (pa_cons (pe_op op_add (pe_op op_add (pe_op op_mul (pv 2) pe_int) (pe_op op_mod (pe_callTy call_int1 (by rfl) T.int_ (by decide +kernel) (pa_cons (pv 4) pa_nil)) pe_int)) pe_int) pa_nil)) pe_int) (pa_cons (pe_op op_add (pv 2) pe_int) pa_nil)))))))))), ?_⟩
  obtain ⟨a, ns, rfl, hS, h63, q⟩ := h
  have hs : Scr K ⟨[], H⟩ a ns := ⟨hS, fun z => nomatch z⟩
  refine jar_sx hs h63 (fun Φ hΦ => ?_) Q q
  walk_at "sk"
  · exact .inl ⟨by decide, by decide⟩
  refine sx_for (ei_list ?_)
  refine ev_slS ?_
  walk_at "sk"
  refine ⟨a, ns, rfl, hs, ?_⟩
  refine eo_none ?_
  refine eo_some ?_
  walk_at "sk"
  intro l
  rw [show cutD (ns.map PyData.int) none (some 63) = (ns.take 63).map PyData.int from cut_to ns 63]
  refine ⟨l, _, rfl, List.mem_cons_self .., fun i ρ' O' => O' = [(l, .lst ((ns.take 63).map PyData.int))] ∧ ∃ (st : Int) (y : Option Kn), ρ' = [some (.ptr a), some (.dat (.int 0)), some (.dat (.int st)), y, none, none], ⟨rfl, _, _, rfl⟩, fun i ρ' O' _ hI q hq => ?_, fun i k ρ' O' hk hI => ?_, fun ρ' O' hI => ?_⟩
  · obtain ⟨rfl, _⟩ := hI
    exact hq
  · obtain ⟨rfl, st, y, rfl⟩ := hI
    rw [List.getElem?_map, List.getElem?_map] at hk
    cases hn : (ns.take 63)[i]? with
    | none => rw [hn] at hk; cases hk
    | some n =>
      rw [hn] at hk
      cases hk
      refine tg_name ?_
      walk_at "sk"
      · exact .inr ⟨by decide, by decide⟩
      refine oc_intI ?_
      walk_at "sk"
      refine o_mod (by decide) ?_
      walk_at "sk"
      refine oc_intI ?_
      walk_at "sk"
      refine o_mod (by decide) ?_
      walk_at "sk"
      exact ⟨_, sub_refl _, rfl, _, _, rfl⟩
  · obtain ⟨rfl, st, y, rfl⟩ := hI
    refine sx_mid (fun ρ' O' => ∃ nr : Int, ρ' = [some (.ptr a), some (.dat (.int 0)), some (.dat (.int st)), y, some (.dat (.int nr)), none]) ?_ fun ρ' O' hM => ?_
    · walk_at "sk"
      refine oc_lenS hs ?_
      walk_at "sk"
      refine ⟨fun h => ?_, fun _ => ?_⟩
      · obtain ⟨z, hz⟩ : ∃ z, atI ns 0 = some z := by
          cases ns with
          | nil => exact absurd (of_decide_eq_true h) (by decide)
          | cons z r => exact ⟨z, atI_nat (i := 0) rfl⟩
        walk_at "sk"
        refine o_ixS hs hz ?_
        walk_at "sk"
        refine oc_intI ?_
        walk_at "sk"
        refine oc_abs ?_
        refine tg_name ?_
        exact ⟨_, rfl⟩
      · walk_at "sk"
        exact ⟨_, rfl⟩
    obtain ⟨nr, rfl⟩ := hM
    refine sx_mid (fun ρ' O' => ∃ gr : Int, ρ' = [some (.ptr a), some (.dat (.int 0)), some (.dat (.int st)), y, some (.dat (.int nr)), some (.dat (.int gr))]) ?_ fun ρ' O' hM => ?_
    · walk_at "sk"
      refine o_pow ⟨by decide, by decide, by decide⟩ ?_
      walk_at "sk"
      refine ⟨fun h => ?_, fun _ => ?_⟩
      · walk_at "sk"
        exact ⟨_, rfl⟩
      · walk_at "sk"
        exact ⟨_, rfl⟩
    obtain ⟨gr, rfl⟩ := hM
    walk_at "sk"
    refine ev_jar ?_
    walk_at "sk"
    · exact .inr ⟨by decide, by decide⟩
    refine oc_intI ?_
    walk_at "sk"
    refine o_mod (by decide) ?_
    walk_at "sk"
    refine oc_intI ?_
    walk_at "sk"
    refine o_mod (by decide) ?_
    walk_at "sk"
    exact ⟨_, _, _, rfl, fun p => ⟨[(p, .jar)], sub_keep (sub_nil _), hΦ p⟩⟩
theorem ev_callJar {ρ : Sl} {O : Cs} {Φ : Kn → Cs → Prop} {as : TA} {E : XK} (h : EvA B as ρ O fun ks O1 => ∃ a ns, ks = [.ptr a, .dat (.int 0)] ∧ Scr K B a ns ∧ ns.length ≤ 63 ∧ ∀ p, Φ (.ptr p) ((p, .jar) :: O1)) : Ev B (tCall (spJar K) [] E as) ρ O Φ := fun σ H τ F R Q hQ =>
  h σ H τ F R _ fun vs H1 ks O1 ⟨a, ns, e, hs, h63, q⟩ hl R1 => by
    subst e
    match vs, hl with
    | [v, u], _ =>
      have e1 : v = .ref a := R1.tmp (v, .ptr a) (by simp)
      have e2 : Dt H1 u (.int 0) := R1.tmp (u, .dat (.int 0)) (by simp)
      cases e2
      subst e1
      rw [List.append_nil]
      refine ⟨a, ns, rfl, hs.now R1, h63, fun H' p x y z g hp e => hQ (.ref p) H' (.ptr p) _ (q p) ?_⟩
      have R2 : Rs B H1 σ ρ (O1 ++ F) τ := R1.sub fun q hq => List.mem_append_right _ hq
      exact (R2.step (Oc := []) (F := O1 ++ F) (O' := [(p, .jar)]) (.refl _) g (fun q hq => by simp at hq; subst hq; exact ⟨x, y, z, e⟩) (by simp) (fun q hq => by simp at hq; subst hq; exact .inr hp)).push rfl
def spLaw (K : PySem.W.Frag) : Sp := fun vs H Q _ => ∃ (a : Addr) (ns : List Int), vs = [.ref a] ∧ SqL K H a (ns.map V.int) ∧ ns.length ≤ 63 ∧ ∀ H', Q (.bl true) H'
theorem ok_law {fj : Addr} {fdj : FuncData} (F : Df K mg "law" s_law f fd) (Fj : Df K mg "_law_jar" s_law_jar fj fdj) (J : FnOk P w K mg base CX0 1 fj fdj ["_law_script", "_law_turn"] (spJar K)) (C_law_right : ClG P w K mg base "_law_right" 18 1 w_lright) : Nw.FnG P w K mg base 19 f fd ["_law_script"] (spLaw K) := by
  have nd := sc_law.nd
  refine Nw.fnG_of F.fn sc_law (fun vs H Q E h => by obtain ⟨a, ns, rfl, _⟩ := h; rfl) fun cdv A outer s H vs Q E hr hgd h => ⟨_, pss_one (ps_ret (pe_clG C_law_right (hr.mono (by decide)) hgd (by rfl) (pa_cons (pe_call J (hr.mono (by decide)) (by rfl) Fj.at_ Fj.fn.kp (Fj.fn.binds (fun _ _ _ _ _ _ us hl => match us, hl with | [_, _], _ => rfl)) .nil pass0 (pa_cons (pv 0) (pa_cons pe_int pa_nil))) pa_nil))), ?_⟩
  obtain ⟨a, ns, rfl, hS, h63, q⟩ := h
  have hs : Scr K ⟨[], H⟩ a ns := ⟨hS, fun z => nomatch z⟩
  refine sx_run (ks := [.ptr a]) (Φ := fun k O => k = .dat (.bool true)) rfl (fun q hq => ?_) ?_ (by show 1 ≤ 1; decide) fun v H' k O h hk g hc hn => ?_
  · simp only [List.zip_cons_cons, List.zip_nil_right, List.mem_cons, List.not_mem_nil, or_false] at hq
    subst hq
    exact (rfl : V.ref a = .ref a)
  · refine sx_ret (ev_call (ea_cons (ev_callJar (ea_cons (ev_var rfl (ea_cons (ev_int (ea_nil ?_))))))))
    refine ⟨a, ns, rfl, hs, h63, fun p => ea_nil ⟨rfl, [(p, .jar)], [], .refl _, p, rfl, rfl, [], sub_nil _, rfl⟩⟩
  · subst h
    have hk : Dt H' v (.bool true) := hk
    cases hk
    exact q H'
end
end Sk


/-! La14: all promises joined -/
namespace Sk
open PySem PySem.Spec PyProof.Rows L2
/-- where a def stands -/
def Dx (K : PySem.W.Frag) (mg : Str → Option Value) (x : Str) (st : Stmt) : Prop := ∃ f fd, Df K mg x st f fd
/-- what the top has left -/
structure Top (P : Program) (w : World) (K : PySem.W.Frag) (mg : Str → Option Value) (C fi : Addr) (fdi : FuncData) : Prop where
  T : Bt mg
  L : LotC P w K mg C
  Mk_Lot : Mk K C fi
  F_Lot : Fun K "__init__" "Lot.__init__" s_LotInit fi fdi
  f_sign : Dx K mg "sign" s_sign
  f_dot : Dx K mg "dot" s_dot
  f_cross : Dx K mg "cross" s_cross
  f_negative : Dx K mg "negative" s_negative
  f_common_divisor : Dx K mg "common_divisor" s_common_divisor
  f_lowest : Dx K mg "lowest" s_lowest
  f_first_above : Dx K mg "first_above" s_first_above
  f_is_whole : Dx K mg "is_whole" s_is_whole
  f_are_wholes : Dx K mg "are_wholes" s_are_wholes
  f_is_some_triple : Dx K mg "is_some_triple" s_is_some_triple
  f_is_tree : Dx K mg "is_tree" s_is_tree
  f_trees_in : Dx K mg "trees_in" s_trees_in
  f_leaf_planes : Dx K mg "leaf_planes" s_leaf_planes
  f_with_reduced : Dx K mg "with_reduced" s_with_reduced
  f_planes_of_tree : Dx K mg "planes_of_tree" s_planes_of_tree
  f_tree_holds : Dx K mg "tree_holds" s_tree_holds
  f_signs_at : Dx K mg "signs_at" s_signs_at
  f_check_many : Dx K mg "check_many" s_check_many
  f_check_lot : Dx K mg "check_lot" s_check_lot
  f_lot_with : Dx K mg "lot_with" s_lot_with
  f_has_signs : Dx K mg "has_signs" s_has_signs
  f_rest : Dx K mg "rest" s_rest
  f_added : Dx K mg "added" s_added
  f_near : Dx K mg "near" s_near
  f_corner_rays : Dx K mg "corner_rays" s_corner_rays
  f_level_ray : Dx K mg "level_ray" s_level_ray
  f_arc_rays : Dx K mg "arc_rays" s_arc_rays
  f_all_cells : Dx K mg "all_cells" s_all_cells
  f_zeros_in : Dx K mg "zeros_in" s_zeros_in
  f_lies_at : Dx K mg "lies_at" s_lies_at
  f_lot_cells : Dx K mg "lot_cells" s_lot_cells
  f_cells_of : Dx K mg "cells_of" s_cells_of
  f_any_ray : Dx K mg "any_ray" s_any_ray
  f_is_empty : Dx K mg "is_empty" s_is_empty
  f_has_open : Dx K mg "has_open" s_has_open
  f_is_open : Dx K mg "is_open" s_is_open
  f_law_dot : Dx K mg "_law_dot" s_law_dot
  f_law_cross : Dx K mg "_law_cross" s_law_cross
  f_law_minus : Dx K mg "_law_minus" s_law_minus
  f_law_by : Dx K mg "_law_by" s_law_by
  f_law_sign : Dx K mg "_law_sign" s_law_sign
  f_law_gcd : Dx K mg "_law_gcd" s_law_gcd
  f_law_reduced : Dx K mg "_law_reduced" s_law_reduced
  f_law_rim : Dx K mg "_law_rim" s_law_rim
  f_law_signs : Dx K mg "_law_signs" s_law_signs
  f_law_are_whole : Dx K mg "_law_are_whole" s_law_are_whole
  f_law_is_ray : Dx K mg "_law_is_ray" s_law_is_ray
  f_law_is_limit : Dx K mg "_law_is_limit" s_law_is_limit
  f_law_touch : Dx K mg "_law_touch" s_law_touch
  f_law_is_wide : Dx K mg "_law_is_wide" s_law_is_wide
  f_law_in : Dx K mg "_law_in" s_law_in
  f_law_off : Dx K mg "_law_off" s_law_off
  f_law_planes : Dx K mg "_law_planes" s_law_planes
  f_law_ends : Dx K mg "_law_ends" s_law_ends
  f_law_cells : Dx K mg "_law_cells" s_law_cells
  f_law_part_right : Dx K mg "_law_part_right" s_law_part_right
  f_law_draw : Dx K mg "_law_draw" s_law_draw
  f_law_one : Dx K mg "_law_one" s_law_one
  f_law_triple : Dx K mg "_law_triple" s_law_triple
  f_law_normal : Dx K mg "_law_normal" s_law_normal
  f_law_leaf : Dx K mg "_law_leaf" s_law_leaf
  f_law_tree : Dx K mg "_law_tree" s_law_tree
  f_law_sky : Dx K mg "_law_sky" s_law_sky
  f_law_rims : Dx K mg "_law_rims" s_law_rims
  f_law_right : Dx K mg "_law_right" s_law_right
  f_law_jar : Dx K mg "_law_jar" s_law_jar
theorem law_all {P : Program} {w : World} {K : PySem.W.Frag} {mg : Str → Option Value} {base : Heap} {C fi fa : Addr} {fdi fda : FuncData} (t : Top P w K mg C fi fdi) (F_law : Df K mg "law" s_law fa fda) : Nw.FnG P w K mg base 19 fa fda ["_law_script"] (spLaw K) := by
  have T := t.T
  have L := t.L
  have Mk_Lot := t.Mk_Lot
  have F_Lot := t.F_Lot
  obtain ⟨_, _, F_sign⟩ := t.f_sign
  obtain ⟨_, _, F_dot⟩ := t.f_dot
  obtain ⟨_, _, F_cross⟩ := t.f_cross
  obtain ⟨_, _, F_negative⟩ := t.f_negative
  obtain ⟨_, _, F_common_divisor⟩ := t.f_common_divisor
  obtain ⟨_, _, F_lowest⟩ := t.f_lowest
  obtain ⟨_, _, F_first_above⟩ := t.f_first_above
  obtain ⟨_, _, F_is_whole⟩ := t.f_is_whole
  obtain ⟨_, _, F_are_wholes⟩ := t.f_are_wholes
  obtain ⟨_, _, F_is_some_triple⟩ := t.f_is_some_triple
  obtain ⟨_, _, F_is_tree⟩ := t.f_is_tree
  obtain ⟨_, _, F_trees_in⟩ := t.f_trees_in
  obtain ⟨_, _, F_leaf_planes⟩ := t.f_leaf_planes
  obtain ⟨_, _, F_with_reduced⟩ := t.f_with_reduced
  obtain ⟨_, _, F_planes_of_tree⟩ := t.f_planes_of_tree
  obtain ⟨_, _, F_tree_holds⟩ := t.f_tree_holds
  obtain ⟨_, _, F_signs_at⟩ := t.f_signs_at
  obtain ⟨_, _, F_check_many⟩ := t.f_check_many
  obtain ⟨_, _, F_check_lot⟩ := t.f_check_lot
  obtain ⟨_, _, F_lot_with⟩ := t.f_lot_with
  obtain ⟨_, _, F_has_signs⟩ := t.f_has_signs
  obtain ⟨_, _, F_rest⟩ := t.f_rest
  obtain ⟨_, _, F_added⟩ := t.f_added
  obtain ⟨_, _, F_near⟩ := t.f_near
  obtain ⟨_, _, F_corner_rays⟩ := t.f_corner_rays
  obtain ⟨_, _, F_level_ray⟩ := t.f_level_ray
  obtain ⟨_, _, F_arc_rays⟩ := t.f_arc_rays
  obtain ⟨_, _, F_all_cells⟩ := t.f_all_cells
  obtain ⟨_, _, F_zeros_in⟩ := t.f_zeros_in
  obtain ⟨_, _, F_lies_at⟩ := t.f_lies_at
  obtain ⟨_, _, F_lot_cells⟩ := t.f_lot_cells
  obtain ⟨_, _, F_cells_of⟩ := t.f_cells_of
  obtain ⟨_, _, F_any_ray⟩ := t.f_any_ray
  obtain ⟨_, _, F_is_empty⟩ := t.f_is_empty
  obtain ⟨_, _, F_has_open⟩ := t.f_has_open
  obtain ⟨_, _, F_is_open⟩ := t.f_is_open
  obtain ⟨_, _, F__law_dot⟩ := t.f_law_dot
  obtain ⟨_, _, F__law_cross⟩ := t.f_law_cross
  obtain ⟨_, _, F__law_minus⟩ := t.f_law_minus
  obtain ⟨_, _, F__law_by⟩ := t.f_law_by
  obtain ⟨_, _, F__law_sign⟩ := t.f_law_sign
  obtain ⟨_, _, F__law_gcd⟩ := t.f_law_gcd
  obtain ⟨_, _, F__law_reduced⟩ := t.f_law_reduced
  obtain ⟨_, _, F__law_rim⟩ := t.f_law_rim
  obtain ⟨_, _, F__law_signs⟩ := t.f_law_signs
  obtain ⟨_, _, F__law_are_whole⟩ := t.f_law_are_whole
  obtain ⟨_, _, F__law_is_ray⟩ := t.f_law_is_ray
  obtain ⟨_, _, F__law_is_limit⟩ := t.f_law_is_limit
  obtain ⟨_, _, F__law_touch⟩ := t.f_law_touch
  obtain ⟨_, _, F__law_is_wide⟩ := t.f_law_is_wide
  obtain ⟨_, _, F__law_in⟩ := t.f_law_in
  obtain ⟨_, _, F__law_off⟩ := t.f_law_off
  obtain ⟨_, _, F__law_planes⟩ := t.f_law_planes
  obtain ⟨_, _, F__law_ends⟩ := t.f_law_ends
  obtain ⟨_, _, F__law_cells⟩ := t.f_law_cells
  obtain ⟨_, _, F__law_part_right⟩ := t.f_law_part_right
  obtain ⟨_, _, F__law_draw⟩ := t.f_law_draw
  obtain ⟨_, _, F__law_one⟩ := t.f_law_one
  obtain ⟨_, _, F__law_triple⟩ := t.f_law_triple
  obtain ⟨_, _, F__law_normal⟩ := t.f_law_normal
  obtain ⟨_, _, F__law_leaf⟩ := t.f_law_leaf
  obtain ⟨_, _, F__law_tree⟩ := t.f_law_tree
  obtain ⟨_, _, F__law_sky⟩ := t.f_law_sky
  obtain ⟨_, _, F__law_rims⟩ := t.f_law_rims
  obtain ⟨_, _, F__law_right⟩ := t.f_law_right
  obtain ⟨_, _, F__law_jar⟩ := t.f_law_jar
  have C_sign := cl_sign (P := P) (w := w) (base := base) F_sign
  have C_dot := cl_dot (P := P) (w := w) (base := base) F_dot
  have C_cross := cl_cross (P := P) (w := w) (base := base) F_cross
  have C_negative := cl_negative (P := P) (w := w) (base := base) T F_negative
  have C_common_divisor := cl_common_divisor (P := P) (w := w) (base := base) T F_common_divisor
  have C_lowest := cl_lowest (P := P) (w := w) (base := base) T F_lowest C_common_divisor
  have C_first_above := cl_first_above (P := P) (w := w) (base := base) T F_first_above C_lowest
  have C_is_whole := cl_is_whole (P := P) (w := w) (base := base) T F_is_whole
  have C_are_wholes := cl_are_wholes (P := P) (w := w) (base := base) T F_are_wholes C_is_whole
  have C_is_some_triple := cl_is_some_triple (P := P) (w := w) (base := base) T F_is_some_triple C_are_wholes
  have C_is_tree := cl_is_tree (P := P) (w := w) (base := base) T F_is_tree C_is_some_triple 8
  have C_trees_in := cl_trees_in (P := P) (w := w) (base := base) T F_trees_in
  have C_leaf_planes := cl_leaf_planes (P := P) (w := w) (base := base) T F_leaf_planes C_trees_in 8
  have C_with_reduced := cl_with_reduced (P := P) (w := w) (base := base) T F_with_reduced C_lowest 8
  have C_planes_of_tree := cl_planes_of_tree (P := P) (w := w) (base := base) T F_planes_of_tree C_leaf_planes C_first_above
  have C_tree_holds := cl_tree_holds (P := P) (w := w) (base := base) T F_tree_holds C_first_above C_lowest 8
  have C_signs_at := cl_signs_at (P := P) (w := w) (base := base) T F_signs_at C_sign C_dot
  have C_check_many := cl_check_many (P := P) (w := w) (base := base) T F_check_many
  have C_check_lot := cl_check_lot (P := P) (w := w) (base := base) T L F_check_lot
  have M_Lot := mk_lot (oc := 0) (base := base) T L Mk_Lot F_Lot C_is_tree C_leaf_planes C_check_many C_planes_of_tree C_with_reduced
  have C_lot_with := cl_lot_with (P := P) (w := w) (base := base) T L F_lot_with M_Lot C_planes_of_tree C_with_reduced
  have C_has_signs := cl_has_signs (P := P) (w := w) (base := base) T L F_has_signs C_tree_holds
  have C_rest := cl_rest (P := P) (w := w) (base := base) T L F_rest C_check_lot C_lot_with
  have C_added := cl_added (P := P) (w := w) (base := base) F_added
  have C_near := cl_near (P := P) (w := w) (base := base) T F_near C_dot C_added C_lowest
  have C_corner_rays := cl_corner_rays (P := P) (w := w) (base := base) T F_corner_rays C_cross C_lowest C_negative
  have C_level_ray := cl_level_ray (P := P) (w := w) (base := base) T F_level_ray C_lowest
  have C_arc_rays := cl_arc_rays (P := P) (w := w) (base := base) T F_arc_rays C_level_ray C_dot C_cross C_near C_negative
  have C_all_cells := cl_all_cells (P := P) (w := w) (base := base) T F_all_cells C_corner_rays C_arc_rays C_signs_at C_near C_negative
  have C_zeros_in := cl_zeros_in (P := P) (w := w) (base := base) T F_zeros_in
  have C_lies_at := cl_lies_at (P := P) (w := w) (base := base) T F_lies_at
  have C_lot_cells := cl_lot_cells (P := P) (w := w) (base := base) T L F_lot_cells C_all_cells C_has_signs
  have C_cells_of := cl_cells_of (P := P) (w := w) (base := base) T L F_cells_of C_check_lot C_lot_cells
  have CK_cells_of := clk_cells_of (P := P) (w := w) (base := base) T L F_cells_of C_check_lot C_lot_cells
  have C_any_ray := cl_any_ray (P := P) (w := w) (base := base) T L F_any_ray C_check_lot C_lot_cells
  have C_is_empty := cl_is_empty (P := P) (w := w) (base := base) T F_is_empty C_any_ray
  have CK_is_empty := clk_is_empty (P := P) (w := w) (base := base) T F_is_empty C_any_ray
  have C_has_open := cl_has_open (P := P) (w := w) (base := base) T L F_has_open C_check_lot C_lot_cells C_zeros_in
  have C_is_open := cl_is_open (P := P) (w := w) (base := base) T L F_is_open C_check_lot C_lot_cells C_all_cells C_lies_at
  have C_law_dot := cl_law_dot (P := P) (w := w) (base := base) F__law_dot
  have C_law_cross := cl_law_cross (P := P) (w := w) (base := base) F__law_cross
  have C_law_minus := cl_law_minus (P := P) (w := w) (base := base) T F__law_minus
  have C_law_by := cl_law_by (P := P) (w := w) (base := base) T F__law_by
  have C_law_sign := cl_law_sign (P := P) (w := w) (base := base) T F__law_sign
  have C_law_gcd := cl_law_gcd (P := P) (w := w) (base := base) T F__law_gcd
  have C_law_reduced := cl_law_reduced (P := P) (w := w) (base := base) T F__law_reduced C_law_gcd
  have CL_law_reduced := cl_law_reducedL (P := P) (w := w) (base := base) T F__law_reduced C_law_gcd
  have C_law_rim := cl_law_rim (P := P) (w := w) (base := base) T F__law_rim C_law_reduced C_law_minus
  have C_law_signs := cl_law_signs (P := P) (w := w) (base := base) T F__law_signs C_law_sign C_law_dot
  have C_law_are_whole := cl_law_are_whole (P := P) (w := w) (base := base) T F__law_are_whole
  have C_law_is_ray := cl_law_is_ray (P := P) (w := w) (base := base) T F__law_is_ray C_law_are_whole C_law_gcd
  have C_law_is_limit := cl_law_is_limit (P := P) (w := w) (base := base) T F__law_is_limit
  have C_law_touch := cl_law_touch (P := P) (w := w) (base := base) T F__law_touch C_law_is_limit
  have C_law_is_wide := cl_law_is_wide (P := P) (w := w) (base := base) T F__law_is_wide C_law_touch
  have C_law_in := cl_law_in (P := P) (w := w) (base := base) T F__law_in C_law_dot 6
  have C_law_off := cl_law_off (P := P) (w := w) (base := base) T F__law_off C_law_dot CL_law_reduced
  have C_law_planes := cl_law_planes (P := P) (w := w) (base := base) T F__law_planes C_law_rim 6
  have C_law_ends := cl_law_ends (P := P) (w := w) (base := base) T F__law_ends C_law_reduced C_law_cross C_law_minus
  have C_law_cells := cl_law_cells (P := P) (w := w) (base := base) T F__law_cells C_law_ends C_law_signs C_law_reduced C_law_cross C_law_dot C_law_minus C_law_off
  have C_law_part_right := cl_law_part_right (P := P) (w := w) (base := base) T F__law_part_right C_cells_of C_is_empty C_is_open C_has_open C_any_ray C_law_is_wide C_law_is_ray C_law_in
  have C_law_draw := cl_law_draw (P := P) (w := w) (base := base) T F__law_draw
  have C_law_one := cl_law_one (P := P) (w := w) (base := base) T F__law_one C_law_draw
  have C_law_triple := cl_law_triple (P := P) (w := w) (base := base) T F__law_triple C_law_draw
  have C_law_normal := cl_law_normal (P := P) (w := w) (base := base) T F__law_normal C_law_by C_law_one
  have C_law_leaf := cl_law_leaf (P := P) (w := w) (base := base) T F__law_leaf C_law_draw C_law_one C_law_normal
  have C_law_tree := cl_law_tree (P := P) (w := w) (base := base) T F__law_tree C_law_draw C_law_one C_law_leaf 3
  have C_law_sky := cl_law_sky (P := P) (w := w) (base := base) T F__law_sky C_law_draw C_law_one C_law_by C_law_tree
  have C_law_rims := cl_law_rims (P := P) (w := w) (base := base) T F__law_rims C_law_draw C_law_one C_law_triple C_law_rim
  have C_law_right := cl_law_right (P := P) (w := w) (base := base) T L F__law_right M_Lot C_law_rims C_law_one C_law_sky C_law_cells C_law_planes C_law_in C_law_part_right C_rest CK_cells_of CK_is_empty
  exact ok_law F_law F__law_jar (ok_jar T F__law_jar) C_law_right
end Sk


/-! Hd: what the top leaves; the end -/
namespace Sk
open PySem PySem.Spec PyProof.Rows L2
theorem dx_mk {K : PySem.W.Frag} {h : Heap} {mg : Str → Option Value} (X : K.In h) (G : h.Ns mainGlobals mg) {x : Str} {st : Stmt} {f : Addr} {oc kV dc pm cd ct : Value} {od an : Option Addr} {sl : Array (Option Value)} (a : PySem.W.nsIn K mainGlobals x = some (some (.ref f)))
    (l : K.lookup f = some ⟨oc, od, .func (PySem.W.fnOf x x (defArgs st) (defBody st) (defScope st) .none kV dc pm an cd ct), sl⟩) (c : PySem.W.codeIn K cd x = true) (k : PySem.W.keepIn K (.ref f) = true) : Dx K mg x st :=
  ⟨f, _, fun_mk (st := st) l c k, PySem.W.mg_of X G a⟩
theorem bt_mk {K : PySem.W.Frag} {h : Heap} {mg : Str → Option Value} (X : K.In h) (G : h.Ns mainGlobals mg) {t1 t2 t3 t4 : Tok}
    (z_len : PySem.W.nsIn K mainGlobals "len" = some none)
    (z_isinstance : PySem.W.nsIn K mainGlobals "isinstance" = some none)
    (z_all : PySem.W.nsIn K mainGlobals "all" = some none)
    (z_any : PySem.W.nsIn K mainGlobals "any" = some none)
    (z_max : PySem.W.nsIn K mainGlobals "max" = some none)
    (z_abs : PySem.W.nsIn K mainGlobals "abs" = some none)
    (z_divmod : PySem.W.nsIn K mainGlobals "divmod" = some none)
    (z_sorted : PySem.W.nsIn K mainGlobals "sorted" = some none)
    (z_repr : PySem.W.nsIn K mainGlobals "repr" = some none)
    (z_tuple : PySem.W.nsIn K mainGlobals "tuple" = some none)
    (z_list : PySem.W.nsIn K mainGlobals "list" = some none)
    (z_int : PySem.W.nsIn K mainGlobals "int" = some none)
    (z_bool : PySem.W.nsIn K mainGlobals "bool" = some none)
    (z_str : PySem.W.nsIn K mainGlobals "str" = some none)
    (z_dict : PySem.W.nsIn K mainGlobals "dict" = some none)
    (z_zip : PySem.W.nsIn K mainGlobals "zip" = some none)
    (z_enumerate : PySem.W.nsIn K mainGlobals "enumerate" = some none)
    (z_range : PySem.W.nsIn K mainGlobals "range" = some none)
    (z_gcd : PySem.W.nsIn K mainGlobals "gcd" = some (some (.builtin "math.gcd")))
    (z_c1 : PySem.W.nsIn K mainGlobals "MOST_LEAVES" = some (some (.int 24 t1)))
    (z_c2 : PySem.W.nsIn K mainGlobals "MOST_DEEP" = some (some (.int 6 t2)))
    (z_c3 : PySem.W.nsIn K mainGlobals "MOST_TREES" = some (some (.int 8 t3)))
    (z_c4 : PySem.W.nsIn K mainGlobals "MOST_PLANES" = some (some (.int 10 t4)))
    : Bt mg where
  len_ := PySem.W.mg_none_of X G z_len
  isinstance_ := PySem.W.mg_none_of X G z_isinstance
  all_ := PySem.W.mg_none_of X G z_all
  any_ := PySem.W.mg_none_of X G z_any
  max_ := PySem.W.mg_none_of X G z_max
  abs_ := PySem.W.mg_none_of X G z_abs
  divmod_ := PySem.W.mg_none_of X G z_divmod
  sorted_ := PySem.W.mg_none_of X G z_sorted
  repr_ := PySem.W.mg_none_of X G z_repr
  tuple_ := PySem.W.mg_none_of X G z_tuple
  list_ := PySem.W.mg_none_of X G z_list
  int_ := PySem.W.mg_none_of X G z_int
  bool_ := PySem.W.mg_none_of X G z_bool
  str_ := PySem.W.mg_none_of X G z_str
  dict_ := PySem.W.mg_none_of X G z_dict
  zip_ := PySem.W.mg_none_of X G z_zip
  enumerate_ := PySem.W.mg_none_of X G z_enumerate
  range_ := PySem.W.mg_none_of X G z_range
  gcd_ := PySem.W.mg_of X G z_gcd
  leaves := ⟨_, PySem.W.mg_of X G z_c1⟩
  deep := ⟨_, PySem.W.mg_of X G z_c2⟩
  trees := ⟨_, PySem.W.mg_of X G z_c3⟩
  planes := ⟨_, PySem.W.mg_of X G z_c4⟩
theorem fin {l : PySem.W.OpenLaw} {w : World} {K : PySem.W.Frag} {h : Heap} {mg : Str → Option Value} {fa C fi : Addr} {oc kV dc pm cd ct : Value} {od an : Option Addr} {sl : Array (Option Value)} (X : K.In h) (G : h.Ns mainGlobals mg) (hfa : mg "law" = some (.ref fa)) (T : Bt mg)
    (aC : PySem.W.nsIn K mainGlobals "Lot" = some (some (.ref C)))
    (pg : PySem.W.plainGet K C Str.empty = true) (hd : PySem.W.hasDictIn K C = true) (po : PySem.W.plainOver K C = true) (sa : PySem.W.findIn K (.ref C) "__setattr__" = some (some (.builtin "object.__setattr__")))
    (ha : PySem.W.findIn K (.ref C) "__class__" = some (some (.builtin "object.__class__"))) (hn : PySem.W.specialIn K (.builtin "object.__class__") "__get__" = some (some (.builtin "getset_descriptor.__get__"))) (htk : PySem.W.takesIn K (.builtin "object.__class__") = some true) (hm : PySem.W.mroIn K C (.type "object") = some true)
    (nT : PySem.W.findIn K (.ref C) "tree" = some none) (nP : PySem.W.findIn K (.ref C) "planes" = some none) (mk : PySem.W.makesIn K C = true) (kc : PySem.W.keepIn K (.ref C) = true)
    (i_a : PySem.W.findIn K (.ref C) "__init__" = some (some (.ref fi))) (i_f : PySem.W.isFn K (.ref fi) = true) (i_l : K.lookup fi = some ⟨oc, od, .func (PySem.W.fnOf "__init__" "Lot.__init__" (defArgs s_LotInit) (defBody s_LotInit) (defScope s_LotInit) .none kV dc pm an cd ct), sl⟩) (i_c : PySem.W.codeIn K cd "Lot.__init__" = true) (i_k : PySem.W.keepIn K (.ref fi) = true)
    (f_sign : Dx K mg "sign" s_sign)
    (f_dot : Dx K mg "dot" s_dot)
    (f_cross : Dx K mg "cross" s_cross)
    (f_negative : Dx K mg "negative" s_negative)
    (f_common_divisor : Dx K mg "common_divisor" s_common_divisor)
    (f_lowest : Dx K mg "lowest" s_lowest)
    (f_first_above : Dx K mg "first_above" s_first_above)
    (f_is_whole : Dx K mg "is_whole" s_is_whole)
    (f_are_wholes : Dx K mg "are_wholes" s_are_wholes)
    (f_is_some_triple : Dx K mg "is_some_triple" s_is_some_triple)
    (f_is_tree : Dx K mg "is_tree" s_is_tree)
    (f_trees_in : Dx K mg "trees_in" s_trees_in)
    (f_leaf_planes : Dx K mg "leaf_planes" s_leaf_planes)
    (f_with_reduced : Dx K mg "with_reduced" s_with_reduced)
    (f_planes_of_tree : Dx K mg "planes_of_tree" s_planes_of_tree)
    (f_tree_holds : Dx K mg "tree_holds" s_tree_holds)
    (f_signs_at : Dx K mg "signs_at" s_signs_at)
    (f_check_many : Dx K mg "check_many" s_check_many)
    (f_check_lot : Dx K mg "check_lot" s_check_lot)
    (f_lot_with : Dx K mg "lot_with" s_lot_with)
    (f_has_signs : Dx K mg "has_signs" s_has_signs)
    (f_rest : Dx K mg "rest" s_rest)
    (f_added : Dx K mg "added" s_added)
    (f_near : Dx K mg "near" s_near)
    (f_corner_rays : Dx K mg "corner_rays" s_corner_rays)
    (f_level_ray : Dx K mg "level_ray" s_level_ray)
    (f_arc_rays : Dx K mg "arc_rays" s_arc_rays)
    (f_all_cells : Dx K mg "all_cells" s_all_cells)
    (f_zeros_in : Dx K mg "zeros_in" s_zeros_in)
    (f_lies_at : Dx K mg "lies_at" s_lies_at)
    (f_lot_cells : Dx K mg "lot_cells" s_lot_cells)
    (f_cells_of : Dx K mg "cells_of" s_cells_of)
    (f_any_ray : Dx K mg "any_ray" s_any_ray)
    (f_is_empty : Dx K mg "is_empty" s_is_empty)
    (f_has_open : Dx K mg "has_open" s_has_open)
    (f_is_open : Dx K mg "is_open" s_is_open)
    (f_law_dot : Dx K mg "_law_dot" s_law_dot)
    (f_law_cross : Dx K mg "_law_cross" s_law_cross)
    (f_law_minus : Dx K mg "_law_minus" s_law_minus)
    (f_law_by : Dx K mg "_law_by" s_law_by)
    (f_law_sign : Dx K mg "_law_sign" s_law_sign)
    (f_law_gcd : Dx K mg "_law_gcd" s_law_gcd)
    (f_law_reduced : Dx K mg "_law_reduced" s_law_reduced)
    (f_law_rim : Dx K mg "_law_rim" s_law_rim)
    (f_law_signs : Dx K mg "_law_signs" s_law_signs)
    (f_law_are_whole : Dx K mg "_law_are_whole" s_law_are_whole)
    (f_law_is_ray : Dx K mg "_law_is_ray" s_law_is_ray)
    (f_law_is_limit : Dx K mg "_law_is_limit" s_law_is_limit)
    (f_law_touch : Dx K mg "_law_touch" s_law_touch)
    (f_law_is_wide : Dx K mg "_law_is_wide" s_law_is_wide)
    (f_law_in : Dx K mg "_law_in" s_law_in)
    (f_law_off : Dx K mg "_law_off" s_law_off)
    (f_law_planes : Dx K mg "_law_planes" s_law_planes)
    (f_law_ends : Dx K mg "_law_ends" s_law_ends)
    (f_law_cells : Dx K mg "_law_cells" s_law_cells)
    (f_law_part_right : Dx K mg "_law_part_right" s_law_part_right)
    (f_law_draw : Dx K mg "_law_draw" s_law_draw)
    (f_law_one : Dx K mg "_law_one" s_law_one)
    (f_law_triple : Dx K mg "_law_triple" s_law_triple)
    (f_law_normal : Dx K mg "_law_normal" s_law_normal)
    (f_law_leaf : Dx K mg "_law_leaf" s_law_leaf)
    (f_law_tree : Dx K mg "_law_tree" s_law_tree)
    (f_law_sky : Dx K mg "_law_sky" s_law_sky)
    (f_law_rims : Dx K mg "_law_rims" s_law_rims)
    (f_law_right : Dx K mg "_law_right" s_law_right)
    (f_law_jar : Dx K mg "_law_jar" s_law_jar)
    (f_law : Dx K mg "law" s_law)
    : ∃ fd : FuncData, (∀ (s : Shared) (u : Value), BindsTo s fd ⟨[u], []⟩ [("_law_script", u)]) ∧ ∀ base : Heap, K.In base → base.Ns mainGlobals mg → Nw.FnG l.prog w K mg base 19 fa fd ["_law_script"] (spLaw K) := by
  obtain ⟨f, fd, F⟩ := f_law
  have e := hfa.symm.trans F.at_
  cases e
  have c : Cls K C := ⟨pg, hd, po, sa⟩
  have t : Top l.prog w K mg C fi _ := ⟨T, ⟨⟨c, ha, hn, htk, hm⟩, PySem.W.mg_of X G aC, nT, nP⟩, ⟨mk, i_a, i_f, kc⟩, fun_mk (st := s_LotInit) i_l i_c i_k, f_sign, f_dot, f_cross, f_negative, f_common_divisor, f_lowest, f_first_above, f_is_whole, f_are_wholes, f_is_some_triple, f_is_tree, f_trees_in, f_leaf_planes, f_with_reduced, f_planes_of_tree, f_tree_holds, f_signs_at, f_check_many, f_check_lot, f_lot_with, f_has_signs, f_rest, f_added, f_near, f_corner_rays, f_level_ray, f_arc_rays, f_all_cells, f_zeros_in, f_lies_at, f_lot_cells, f_cells_of, f_any_ray, f_is_empty, f_has_open, f_is_open, f_law_dot, f_law_cross, f_law_minus, f_law_by, f_law_sign, f_law_gcd, f_law_reduced, f_law_rim, f_law_signs, f_law_are_whole, f_law_is_ray, f_law_is_limit, f_law_touch, f_law_is_wide, f_law_in, f_law_off, f_law_planes, f_law_ends, f_law_cells, f_law_part_right, f_law_draw, f_law_one, f_law_triple, f_law_normal, f_law_leaf, f_law_tree, f_law_sky, f_law_rims, f_law_right, f_law_jar⟩
  refine ⟨fd, fun s u => ?_, fun base _ _ => law_all t F⟩
  obtain ⟨oc, od, kV, doc, pm, an, cdv, ct, osl, rfl, lk, hcd⟩ := F.fn.ex
  exact .of_eq rfl
end Sk
open PySem PySem.W PyProof.Rows
set_option maxHeartbeats 0 in
theorem PySem.Challenge.cw_skyplates_k31_whole_cells_of_lots_holds : PySem.Challenge.rw_skyplates_k31_whole_cells_of_lots.Holds := by
  w_on; o_law; k_head; (case hw => w_witness2)
  k_fill
  refine Nw.walk_ofG (l := PySem.Challenge.rw_skyplates_k31_whole_cells_of_lots) (n := 63) (k := 19) (x := "_law_script") (sp := fun w => Sk.spLaw _) rfl (by decide) rfl ⟨rfl, by decide, by decide⟩ (fun w h Y => PySem.W.kIn_of Y) ?F (fun _ _ a ns hl _ hS => ⟨a, ns, rfl, hS, hl, fun _ => rfl⟩)
  case F =>
    intro w mg fa h KX G hmg
    refine' Sk.fin KX G hmg (Sk.bt_mk KX G ?z_len ?z_isinstance ?z_all ?z_any ?z_max ?z_abs ?z_divmod ?z_sorted ?z_repr ?z_tuple ?z_list ?z_int ?z_bool ?z_str ?z_dict ?z_zip ?z_enumerate ?z_range ?z_gcd ?z_c1 ?z_c2 ?z_c3 ?z_c4) ?aC ?pg ?hd ?po ?sa ?ha ?hn ?htk ?hm ?nT ?nP ?mk ?kc ?i_a ?i_f ?i_l ?i_c ?i_k (Sk.dx_mk KX G ?a_sign ?l_sign ?c_sign ?k_sign) (Sk.dx_mk KX G ?a_dot ?l_dot ?c_dot ?k_dot) (Sk.dx_mk KX G ?a_cross ?l_cross ?c_cross ?k_cross) (Sk.dx_mk KX G ?a_negative ?l_negative ?c_negative ?k_negative) (Sk.dx_mk KX G ?a_common_divisor ?l_common_divisor ?c_common_divisor ?k_common_divisor) (Sk.dx_mk KX G ?a_lowest ?l_lowest ?c_lowest ?k_lowest) (Sk.dx_mk KX G ?a_first_above ?l_first_above ?c_first_above ?k_first_above) (Sk.dx_mk KX G ?a_is_whole ?l_is_whole ?c_is_whole ?k_is_whole) (Sk.dx_mk KX G ?a_are_wholes ?l_are_wholes ?c_are_wholes ?k_are_wholes) (Sk.dx_mk KX G ?a_is_some_triple ?l_is_some_triple ?c_is_some_triple ?k_is_some_triple) (Sk.dx_mk KX G ?a_is_tree ?l_is_tree ?c_is_tree ?k_is_tree) (Sk.dx_mk KX G ?a_trees_in ?l_trees_in ?c_trees_in ?k_trees_in) (Sk.dx_mk KX G ?a_leaf_planes ?l_leaf_planes ?c_leaf_planes ?k_leaf_planes) (Sk.dx_mk KX G ?a_with_reduced ?l_with_reduced ?c_with_reduced ?k_with_reduced) (Sk.dx_mk KX G ?a_planes_of_tree ?l_planes_of_tree ?c_planes_of_tree ?k_planes_of_tree) (Sk.dx_mk KX G ?a_tree_holds ?l_tree_holds ?c_tree_holds ?k_tree_holds) (Sk.dx_mk KX G ?a_signs_at ?l_signs_at ?c_signs_at ?k_signs_at) (Sk.dx_mk KX G ?a_check_many ?l_check_many ?c_check_many ?k_check_many) (Sk.dx_mk KX G ?a_check_lot ?l_check_lot ?c_check_lot ?k_check_lot) (Sk.dx_mk KX G ?a_lot_with ?l_lot_with ?c_lot_with ?k_lot_with) (Sk.dx_mk KX G ?a_has_signs ?l_has_signs ?c_has_signs ?k_has_signs) (Sk.dx_mk KX G ?a_rest ?l_rest ?c_rest ?k_rest) (Sk.dx_mk KX G ?a_added ?l_added ?c_added ?k_added) (Sk.dx_mk KX G ?a_near ?l_near ?c_near ?k_near) (Sk.dx_mk KX G ?a_corner_rays ?l_corner_rays ?c_corner_rays ?k_corner_rays) (Sk.dx_mk KX G ?a_level_ray ?l_level_ray ?c_level_ray ?k_level_ray) (Sk.dx_mk KX G ?a_arc_rays ?l_arc_rays ?c_arc_rays ?k_arc_rays) (Sk.dx_mk KX G ?a_all_cells ?l_all_cells ?c_all_cells ?k_all_cells) (Sk.dx_mk KX G ?a_zeros_in ?l_zeros_in ?c_zeros_in ?k_zeros_in) (Sk.dx_mk KX G ?a_lies_at ?l_lies_at ?c_lies_at ?k_lies_at) (Sk.dx_mk KX G ?a_lot_cells ?l_lot_cells ?c_lot_cells ?k_lot_cells) (Sk.dx_mk KX G ?a_cells_of ?l_cells_of ?c_cells_of ?k_cells_of) (Sk.dx_mk KX G ?a_any_ray ?l_any_ray ?c_any_ray ?k_any_ray) (Sk.dx_mk KX G ?a_is_empty ?l_is_empty ?c_is_empty ?k_is_empty) (Sk.dx_mk KX G ?a_has_open ?l_has_open ?c_has_open ?k_has_open) (Sk.dx_mk KX G ?a_is_open ?l_is_open ?c_is_open ?k_is_open) (Sk.dx_mk KX G ?a_law_dot ?l_law_dot ?c_law_dot ?k_law_dot) (Sk.dx_mk KX G ?a_law_cross ?l_law_cross ?c_law_cross ?k_law_cross) (Sk.dx_mk KX G ?a_law_minus ?l_law_minus ?c_law_minus ?k_law_minus) (Sk.dx_mk KX G ?a_law_by ?l_law_by ?c_law_by ?k_law_by) (Sk.dx_mk KX G ?a_law_sign ?l_law_sign ?c_law_sign ?k_law_sign) (Sk.dx_mk KX G ?a_law_gcd ?l_law_gcd ?c_law_gcd ?k_law_gcd) (Sk.dx_mk KX G ?a_law_reduced ?l_law_reduced ?c_law_reduced ?k_law_reduced) (Sk.dx_mk KX G ?a_law_rim ?l_law_rim ?c_law_rim ?k_law_rim) (Sk.dx_mk KX G ?a_law_signs ?l_law_signs ?c_law_signs ?k_law_signs) (Sk.dx_mk KX G ?a_law_are_whole ?l_law_are_whole ?c_law_are_whole ?k_law_are_whole) (Sk.dx_mk KX G ?a_law_is_ray ?l_law_is_ray ?c_law_is_ray ?k_law_is_ray) (Sk.dx_mk KX G ?a_law_is_limit ?l_law_is_limit ?c_law_is_limit ?k_law_is_limit) (Sk.dx_mk KX G ?a_law_touch ?l_law_touch ?c_law_touch ?k_law_touch) (Sk.dx_mk KX G ?a_law_is_wide ?l_law_is_wide ?c_law_is_wide ?k_law_is_wide) (Sk.dx_mk KX G ?a_law_in ?l_law_in ?c_law_in ?k_law_in) (Sk.dx_mk KX G ?a_law_off ?l_law_off ?c_law_off ?k_law_off) (Sk.dx_mk KX G ?a_law_planes ?l_law_planes ?c_law_planes ?k_law_planes) (Sk.dx_mk KX G ?a_law_ends ?l_law_ends ?c_law_ends ?k_law_ends) (Sk.dx_mk KX G ?a_law_cells ?l_law_cells ?c_law_cells ?k_law_cells) (Sk.dx_mk KX G ?a_law_part_right ?l_law_part_right ?c_law_part_right ?k_law_part_right) (Sk.dx_mk KX G ?a_law_draw ?l_law_draw ?c_law_draw ?k_law_draw) (Sk.dx_mk KX G ?a_law_one ?l_law_one ?c_law_one ?k_law_one) (Sk.dx_mk KX G ?a_law_triple ?l_law_triple ?c_law_triple ?k_law_triple) (Sk.dx_mk KX G ?a_law_normal ?l_law_normal ?c_law_normal ?k_law_normal) (Sk.dx_mk KX G ?a_law_leaf ?l_law_leaf ?c_law_leaf ?k_law_leaf) (Sk.dx_mk KX G ?a_law_tree ?l_law_tree ?c_law_tree ?k_law_tree) (Sk.dx_mk KX G ?a_law_sky ?l_law_sky ?c_law_sky ?k_law_sky) (Sk.dx_mk KX G ?a_law_rims ?l_law_rims ?c_law_rims ?k_law_rims) (Sk.dx_mk KX G ?a_law_right ?l_law_right ?c_law_right ?k_law_right) (Sk.dx_mk KX G ?a_law_jar ?l_law_jar ?c_law_jar ?k_law_jar) (Sk.dx_mk KX G ?a_law ?l_law ?c_law ?k_law)
    (case z_len => k_is)
    (case z_isinstance => k_is)
    (case z_all => k_is)
    (case z_any => k_is)
    (case z_max => k_is)
    (case z_abs => k_is)
    (case z_divmod => k_is)
    (case z_sorted => k_is)
    (case z_repr => k_is)
    (case z_tuple => k_is)
    (case z_list => k_is)
    (case z_int => k_is)
    (case z_bool => k_is)
    (case z_str => k_is)
    (case z_dict => k_is)
    (case z_zip => k_is)
    (case z_enumerate => k_is)
    (case z_range => k_is)
    (case z_gcd => k_is)
    (case z_c1 => k_is)
    (case z_c2 => k_is)
    (case z_c3 => k_is)
    (case z_c4 => k_is)
    (case aC => k_is)
    (case pg => k_is)
    (case hd => k_is)
    (case po => k_is)
    (case sa => k_is)
    (case ha => k_is)
    (case hn => k_is)
    (case htk => k_is)
    (case hm => k_is)
    (case nT => k_is)
    (case nP => k_is)
    (case mk => k_is)
    (case kc => k_is)
    (case i_a => k_is)
    (case i_f => k_is)
    (case i_l => k_is)
    (case i_c => k_is)
    (case i_k => k_is)
    (case a_sign => k_is)
    (case l_sign => k_is)
    (case c_sign => k_is)
    (case k_sign => k_is)
    (case a_dot => k_is)
    (case l_dot => k_is)
    (case c_dot => k_is)
    (case k_dot => k_is)
    (case a_cross => k_is)
    (case l_cross => k_is)
    (case c_cross => k_is)
    (case k_cross => k_is)
    (case a_negative => k_is)
    (case l_negative => k_is)
    (case c_negative => k_is)
    (case k_negative => k_is)
    (case a_common_divisor => k_is)
    (case l_common_divisor => k_is)
    (case c_common_divisor => k_is)
    (case k_common_divisor => k_is)
    (case a_lowest => k_is)
    (case l_lowest => k_is)
    (case c_lowest => k_is)
    (case k_lowest => k_is)
    (case a_first_above => k_is)
    (case l_first_above => k_is)
    (case c_first_above => k_is)
    (case k_first_above => k_is)
    (case a_is_whole => k_is)
    (case l_is_whole => k_is)
    (case c_is_whole => k_is)
    (case k_is_whole => k_is)
    (case a_are_wholes => k_is)
    (case l_are_wholes => k_is)
    (case c_are_wholes => k_is)
    (case k_are_wholes => k_is)
    (case a_is_some_triple => k_is)
    (case l_is_some_triple => k_is)
    (case c_is_some_triple => k_is)
    (case k_is_some_triple => k_is)
    (case a_is_tree => k_is)
    (case l_is_tree => k_is)
    (case c_is_tree => k_is)
    (case k_is_tree => k_is)
    (case a_trees_in => k_is)
    (case l_trees_in => k_is)
    (case c_trees_in => k_is)
    (case k_trees_in => k_is)
    (case a_leaf_planes => k_is)
    (case l_leaf_planes => k_is)
    (case c_leaf_planes => k_is)
    (case k_leaf_planes => k_is)
    (case a_with_reduced => k_is)
    (case l_with_reduced => k_is)
    (case c_with_reduced => k_is)
    (case k_with_reduced => k_is)
    (case a_planes_of_tree => k_is)
    (case l_planes_of_tree => k_is)
    (case c_planes_of_tree => k_is)
    (case k_planes_of_tree => k_is)
    (case a_tree_holds => k_is)
    (case l_tree_holds => k_is)
    (case c_tree_holds => k_is)
    (case k_tree_holds => k_is)
    (case a_signs_at => k_is)
    (case l_signs_at => k_is)
    (case c_signs_at => k_is)
    (case k_signs_at => k_is)
    (case a_check_many => k_is)
    (case l_check_many => k_is)
    (case c_check_many => k_is)
    (case k_check_many => k_is)
    (case a_check_lot => k_is)
    (case l_check_lot => k_is)
    (case c_check_lot => k_is)
    (case k_check_lot => k_is)
    (case a_lot_with => k_is)
    (case l_lot_with => k_is)
    (case c_lot_with => k_is)
    (case k_lot_with => k_is)
    (case a_has_signs => k_is)
    (case l_has_signs => k_is)
    (case c_has_signs => k_is)
    (case k_has_signs => k_is)
    (case a_rest => k_is)
    (case l_rest => k_is)
    (case c_rest => k_is)
    (case k_rest => k_is)
    (case a_added => k_is)
    (case l_added => k_is)
    (case c_added => k_is)
    (case k_added => k_is)
    (case a_near => k_is)
    (case l_near => k_is)
    (case c_near => k_is)
    (case k_near => k_is)
    (case a_corner_rays => k_is)
    (case l_corner_rays => k_is)
    (case c_corner_rays => k_is)
    (case k_corner_rays => k_is)
    (case a_level_ray => k_is)
    (case l_level_ray => k_is)
    (case c_level_ray => k_is)
    (case k_level_ray => k_is)
    (case a_arc_rays => k_is)
    (case l_arc_rays => k_is)
    (case c_arc_rays => k_is)
    (case k_arc_rays => k_is)
    (case a_all_cells => k_is)
    (case l_all_cells => k_is)
    (case c_all_cells => k_is)
    (case k_all_cells => k_is)
    (case a_zeros_in => k_is)
    (case l_zeros_in => k_is)
    (case c_zeros_in => k_is)
    (case k_zeros_in => k_is)
    (case a_lies_at => k_is)
    (case l_lies_at => k_is)
    (case c_lies_at => k_is)
    (case k_lies_at => k_is)
    (case a_lot_cells => k_is)
    (case l_lot_cells => k_is)
    (case c_lot_cells => k_is)
    (case k_lot_cells => k_is)
    (case a_cells_of => k_is)
    (case l_cells_of => k_is)
    (case c_cells_of => k_is)
    (case k_cells_of => k_is)
    (case a_any_ray => k_is)
    (case l_any_ray => k_is)
    (case c_any_ray => k_is)
    (case k_any_ray => k_is)
    (case a_is_empty => k_is)
    (case l_is_empty => k_is)
    (case c_is_empty => k_is)
    (case k_is_empty => k_is)
    (case a_has_open => k_is)
    (case l_has_open => k_is)
    (case c_has_open => k_is)
    (case k_has_open => k_is)
    (case a_is_open => k_is)
    (case l_is_open => k_is)
    (case c_is_open => k_is)
    (case k_is_open => k_is)
    (case a_law_dot => k_is)
    (case l_law_dot => k_is)
    (case c_law_dot => k_is)
    (case k_law_dot => k_is)
    (case a_law_cross => k_is)
    (case l_law_cross => k_is)
    (case c_law_cross => k_is)
    (case k_law_cross => k_is)
    (case a_law_minus => k_is)
    (case l_law_minus => k_is)
    (case c_law_minus => k_is)
    (case k_law_minus => k_is)
    (case a_law_by => k_is)
    (case l_law_by => k_is)
    (case c_law_by => k_is)
    (case k_law_by => k_is)
    (case a_law_sign => k_is)
    (case l_law_sign => k_is)
    (case c_law_sign => k_is)
    (case k_law_sign => k_is)
    (case a_law_gcd => k_is)
    (case l_law_gcd => k_is)
    (case c_law_gcd => k_is)
    (case k_law_gcd => k_is)
    (case a_law_reduced => k_is)
    (case l_law_reduced => k_is)
    (case c_law_reduced => k_is)
    (case k_law_reduced => k_is)
    (case a_law_rim => k_is)
    (case l_law_rim => k_is)
    (case c_law_rim => k_is)
    (case k_law_rim => k_is)
    (case a_law_signs => k_is)
    (case l_law_signs => k_is)
    (case c_law_signs => k_is)
    (case k_law_signs => k_is)
    (case a_law_are_whole => k_is)
    (case l_law_are_whole => k_is)
    (case c_law_are_whole => k_is)
    (case k_law_are_whole => k_is)
    (case a_law_is_ray => k_is)
    (case l_law_is_ray => k_is)
    (case c_law_is_ray => k_is)
    (case k_law_is_ray => k_is)
    (case a_law_is_limit => k_is)
    (case l_law_is_limit => k_is)
    (case c_law_is_limit => k_is)
    (case k_law_is_limit => k_is)
    (case a_law_touch => k_is)
    (case l_law_touch => k_is)
    (case c_law_touch => k_is)
    (case k_law_touch => k_is)
    (case a_law_is_wide => k_is)
    (case l_law_is_wide => k_is)
    (case c_law_is_wide => k_is)
    (case k_law_is_wide => k_is)
    (case a_law_in => k_is)
    (case l_law_in => k_is)
    (case c_law_in => k_is)
    (case k_law_in => k_is)
    (case a_law_off => k_is)
    (case l_law_off => k_is)
    (case c_law_off => k_is)
    (case k_law_off => k_is)
    (case a_law_planes => k_is)
    (case l_law_planes => k_is)
    (case c_law_planes => k_is)
    (case k_law_planes => k_is)
    (case a_law_ends => k_is)
    (case l_law_ends => k_is)
    (case c_law_ends => k_is)
    (case k_law_ends => k_is)
    (case a_law_cells => k_is)
    (case l_law_cells => k_is)
    (case c_law_cells => k_is)
    (case k_law_cells => k_is)
    (case a_law_part_right => k_is)
    (case l_law_part_right => k_is)
    (case c_law_part_right => k_is)
    (case k_law_part_right => k_is)
    (case a_law_draw => k_is)
    (case l_law_draw => k_is)
    (case c_law_draw => k_is)
    (case k_law_draw => k_is)
    (case a_law_one => k_is)
    (case l_law_one => k_is)
    (case c_law_one => k_is)
    (case k_law_one => k_is)
    (case a_law_triple => k_is)
    (case l_law_triple => k_is)
    (case c_law_triple => k_is)
    (case k_law_triple => k_is)
    (case a_law_normal => k_is)
    (case l_law_normal => k_is)
    (case c_law_normal => k_is)
    (case k_law_normal => k_is)
    (case a_law_leaf => k_is)
    (case l_law_leaf => k_is)
    (case c_law_leaf => k_is)
    (case k_law_leaf => k_is)
    (case a_law_tree => k_is)
    (case l_law_tree => k_is)
    (case c_law_tree => k_is)
    (case k_law_tree => k_is)
    (case a_law_sky => k_is)
    (case l_law_sky => k_is)
    (case c_law_sky => k_is)
    (case k_law_sky => k_is)
    (case a_law_rims => k_is)
    (case l_law_rims => k_is)
    (case c_law_rims => k_is)
    (case k_law_rims => k_is)
    (case a_law_right => k_is)
    (case l_law_right => k_is)
    (case c_law_right => k_is)
    (case k_law_right => k_is)
    (case a_law_jar => k_is)
    (case l_law_jar => k_is)
    (case c_law_jar => k_is)
    (case k_law_jar => k_is)
    (case a_law => k_is)
    (case l_law => k_is)
    (case c_law => k_is)
    (case k_law => k_is)

