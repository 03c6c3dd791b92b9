import PyProof.Rows.All
import Wide.All
import OpenK.AllK
import Wide.FinOn
import KE.KStateDown
import HandS.ForMost
import HandS.ForExc
import HandS.IsInst
import HandS.Deep
import HandS.TupAny
import HandS.Style
import HandS.Sort
import HandS.More
import HandS.Conv
import HandS.Defaults
import HandS.WordsExc
import HandS.TryMany
import HandS.ExcIs
import HandS.ExcValue
import HandS.DictComp
import HandS.ListEq
import HandS.DictEq
import HandS.Head0
import HandS.Head1
import HandS.Head2
import HandS.HeadEnd
import HandS.HeadHook1
import HandS.HeadHook2
import HandS.HeadHook3
import HandS.HeadHook4
import PySem.Challenge.RW_chainkeep_k14_refusals_apart
set_option Elab.async false
set_option linter.all false
set_option maxRecDepth 100000
set_option maxHeartbeats 4000000
set_option autoImplicit false
/-! Data-level calculus over HandS: values as PyData, an immutable heap G beside the heap H, slots with owned lists. -/
namespace Ck
open PySem PySem.Spec L2

abbrev Ex (H H' : Hp) : Prop := ∀ b o, H b = some o → H' b = some o
theorem Ex.rfl' (H : Hp) : Ex H H := fun _ _ h => h
theorem Ex.tr {H H1 H2 : Hp} (a : Ex H H1) (b : Ex H1 H2) : Ex H H2 := fun c o h => b c o (a c o h)
theorem Ex.no {H H' : Hp} (e : Ex H H') {a : Addr} (h : H' a = none) : H a = none := by
  cases q : H a with
  | none => rfl
  | some o => rw [e a o q] at h; cases h
theorem Ex.new {H : Hp} {p : Addr} {o : HO} (h : H p = none) : Ex H (upd H p o) := fun a u e => by
  rw [upd_ne (ne_of_none e h)]; exact e
theorem Ex.rd {H H' : Hp} (e : Ex H H') {a : Addr} {u : HO} (h : Rd H a u) : Rd H' a u := by
  rcases h with h | ⟨o, h⟩
  · exact .inl (e _ _ h)
  · exact .inr ⟨o, e _ _ h⟩

def kvI (p : Str × Int) : Key × V := (Sum.inr p.1, .int p.2)
def kvD (p : Str × Int) : PyData × PyData := (.str p.1, .int p.2)

mutual
inductive Rp (G : Hp) : V → PyData → Prop
  | non : Rp G .non .none
  | bl (b : Bool) : Rp G (.bl b) (.bool b)
  | int (i : Int) : Rp G (.int i) (.int i)
  | str (x : Str) : Rp G (.str x) (.str x)
  | lst {a : Addr} {xs : List V} {ds : List PyData} : Rd G a (.lst xs) → Rps G xs ds → Rp G (.ref a) (.list ds)
  | tup {a : Addr} {xs : List V} {ds : List PyData} : Rd G a (.tup xs) → Rps G xs ds → Rp G (.ref a) (.tuple ds)
  | dct {a : Addr} {kvs : List (Str × Int)} {ps : List (PyData × PyData)} : G a = some (.dK (kvs.map kvI)) → ps = kvs.map kvD → Rp G (.ref a) (.dict ps)
inductive Rps (G : Hp) : List V → List PyData → Prop
  | nil : Rps G [] []
  | cons {v : V} {vs : List V} {d : PyData} {ds : List PyData} : Rp G v d → Rps G vs ds → Rps G (v :: vs) (d :: ds)
end
mutual
theorem Rp.mono {G G' : Hp} (e : Ex G G') : ∀ (d : PyData) (v : V), Rp G v d → Rp G' v d
  | .none, _, h => by cases h; exact .non
  | .bool b, _, h => by cases h; exact .bl b
  | .int i, _, h => by cases h; exact .int i
  | .str x, _, h => by cases h; exact .str x
  | .list ds, _, h => by
    cases h with
    | lst h1 h2 => exact .lst (e.rd h1) (Rps.mono e ds _ h2)
  | .tuple ds, _, h => by
    cases h with
    | tup h1 h2 => exact .tup (e.rd h1) (Rps.mono e ds _ h2)
  | .dict ps, _, h => by
    cases h with
    | dct h1 h2 => exact .dct (e _ _ h1) h2
theorem Rps.mono {G G' : Hp} (e : Ex G G') : ∀ (ds : List PyData) (vs : List V), Rps G vs ds → Rps G' vs ds
  | [], _, h => by cases h; exact .nil
  | d :: ds, _, h => by
    cases h with
    | cons h1 h2 => exact .cons (Rp.mono e d _ h1) (Rps.mono e ds _ h2)
end
theorem Rp.up {G G' : Hp} {v : V} {d : PyData} (h : Rp G v d) (e : Ex G G') : Rp G' v d := Rp.mono e d v h
theorem Rps.up {G G' : Hp} {vs : List V} {ds : List PyData} (h : Rps G vs ds) (e : Ex G G') : Rps G' vs ds := Rps.mono e ds vs h
section
variable {K : PySem.W.Frag} {G H : Hp}
theorem rd_sql {a : Addr} {xs : List V} (h : Rd G a (.lst xs)) : SqL K G a xs := .inl h
theorem rd_sqt {a : Addr} {xs : List V} (h : Rd G a (.tup xs)) : SqT K G a xs := .inl h
theorem Rps.length : ∀ {vs : List V} {ds : List PyData}, Rps G vs ds → vs.length = ds.length
  | _, _, .nil => rfl
  | _, _, .cons _ t => congrArg (· + 1) (Rps.length t)
theorem Rps.get : ∀ {vs : List V} {ds : List PyData} {i : Nat} {d : PyData}, Rps G vs ds → ds[i]? = some d → ∃ v, vs[i]? = some v ∧ Rp G v d
  | _, _, _, _, .nil, e => by simp at e
  | _, _, 0, _, .cons r _, e => by simp at e; subst e; exact ⟨_, rfl, r⟩
  | _, _, i + 1, d, .cons _ t, e => by
    obtain ⟨v, h1, h2⟩ := Rps.get (i := i) (d := d) t (by simpa using e)
    exact ⟨v, by simpa using h1, h2⟩
theorem Rps.at : ∀ {vs : List V} {ds : List PyData} {i : Nat} {v : V}, Rps G vs ds → vs[i]? = some v → ∃ d, ds[i]? = some d ∧ Rp G v d
  | _, _, _, _, .nil, e => by simp at e
  | _, _, 0, _, .cons r _, e => by simp at e; subst e; exact ⟨_, rfl, r⟩
  | _, _, i + 1, v, .cons _ t, e => by
    obtain ⟨d, h1, h2⟩ := Rps.at (i := i) (v := v) t (by simpa using e)
    exact ⟨d, by simpa using h1, h2⟩
theorem Rps.app : ∀ {vs ws : List V} {ds es : List PyData}, Rps G vs ds → Rps G ws es → Rps G (vs ++ ws) (ds ++ es)
  | _, _, _, _, .nil, s => s
  | _, _, _, _, .cons r t, s => .cons r (Rps.app t s)
theorem Rps.take : ∀ {vs : List V} {ds : List PyData} (n : Nat), Rps G vs ds → Rps G (vs.take n) (ds.take n)
  | _, _, 0, _ => .nil
  | _, _, _ + 1, .nil => .nil
  | _, _, n + 1, .cons r t => .cons r (Rps.take n t)
theorem Rps.drop : ∀ {vs : List V} {ds : List PyData} (n : Nat), Rps G vs ds → Rps G (vs.drop n) (ds.drop n)
  | _, _, 0, r => r
  | _, _, _ + 1, .nil => .nil
  | _, _, n + 1, .cons _ t => Rps.drop n t
theorem Rps.set {v : V} {d : PyData} (r : Rp G v d) : ∀ {vs : List V} {ds : List PyData} (i : Nat), Rps G vs ds → Rps G (vs.set i v) (ds.set i d)
  | _, _, _, .nil => .nil
  | _, _, 0, .cons _ t => .cons r t
  | _, _, i + 1, .cons q t => .cons q (Rps.set r i t)
theorem Rps.rev : ∀ {vs : List V} {ds : List PyData}, Rps G vs ds → Rps G vs.reverse ds.reverse
  | _, _, .nil => .nil
  | _, _, .cons r t => by
    rw [List.reverse_cons, List.reverse_cons]
    exact (Rps.rev t).app (.cons r .nil)
theorem Rps.ints : ∀ {vs : List V} {ns : List Int}, Rps G vs (ns.map PyData.int) → vs = ns.map V.int
  | _, [], h => by cases h; rfl
  | _, n :: ns, h => by
    cases h with
    | cons h1 h2 => cases h1; rw [Rps.ints h2]; rfl
theorem Rps.ofInts : ∀ (ns : List Int), Rps G (ns.map V.int) (ns.map PyData.int)
  | [] => .nil
  | n :: ns => .cons (.int n) (Rps.ofInts ns)
theorem Rps.strs : ∀ {vs : List V} {ns : List Str}, Rps G vs (ns.map PyData.str) → vs = ns.map V.str
  | _, [], h => by cases h; rfl
  | _, n :: ns, h => by
    cases h with
    | cons h1 h2 => cases h1; rw [Rps.strs h2]; rfl
theorem Rps.ofStrs : ∀ (ns : List Str), Rps G (ns.map V.str) (ns.map PyData.str)
  | [] => .nil
  | n :: ns => .cons (.str n) (Rps.ofStrs ns)
theorem Rps.bls : ∀ {vs : List V} {ns : List Bool}, Rps G vs (ns.map PyData.bool) → vs = ns.map V.bl
  | _, [], h => by cases h; rfl
  | _, n :: ns, h => by
    cases h with
    | cons h1 h2 => cases h1; rw [Rps.bls h2]; rfl
theorem Rps.ofBls : ∀ (ns : List Bool), Rps G (ns.map V.bl) (ns.map PyData.bool)
  | [] => .nil
  | n :: ns => .cons (.bl n) (Rps.ofBls ns)
mutual
theorem Rp.dp : ∀ (d : PyData) (v : V), d.canLay0 = true → Rp G v d → Dp K G v d
  | .none, _, _, h => by cases h; exact .non
  | .bool b, _, _, h => by cases h; exact .bl b
  | .int i, _, _, h => by cases h; exact .int i
  | .str x, _, _, h => by cases h; exact .str x
  | .list ds, _, c, h => by
    cases h with
    | lst h1 h2 => exact .lst (rd_sql h1) (Rps.dps ds _ (by simpa only [PyData.canLay0] using c) h2)
  | .tuple ds, _, c, h => by
    cases h with
    | tup h1 h2 => exact .tup (rd_sqt h1) (Rps.dps ds _ (by simpa only [PyData.canLay0] using c) h2)
  | .dict ps, _, c, h => by simp [PyData.canLay0] at c
theorem Rps.dps : ∀ (ds : List PyData) (vs : List V), PyData.canLayAll0 ds = true → Rps G vs ds → DpAll K G vs ds
  | [], _, _, h => by cases h; exact .nil
  | d :: ds, _, c, h => by
    cases h with
    | cons h1 h2 =>
      have c' : d.canLay0 = true ∧ PyData.canLayAll0 ds = true := by simpa only [PyData.canLayAll0, Bool.and_eq_true] using c
      exact .cons (Rp.dp d _ c'.1 h1) (Rps.dps ds _ c'.2 h2)
end
theorem Rp.toDp {v : V} {d : PyData} (h : Rp G v d) (c : SeqAt.shaped d = true) : Dp K G v d := Rp.dp d v (SeqAt.canLay_of_shaped c) h
end

/-! ### steps of the two heaps -/
structure Stp (G H G' H' : Hp) : Prop where
  g : Ex G G'
  h : Ex H H'
  gh : Ex G' H'
  nw : ∀ a o, H a = some o → G a = none → G' a = none
theorem Stp.rfl' {G H : Hp} (e : Ex G H) : Stp G H G H := ⟨Ex.rfl' G, Ex.rfl' H, e, fun _ _ _ h => h⟩
theorem Stp.tr {G H G1 H1 G2 H2 : Hp} (a : Stp G H G1 H1) (b : Stp G1 H1 G2 H2) : Stp G H G2 H2 :=
  ⟨a.g.tr b.g, a.h.tr b.h, b.gh, fun x o h1 h2 => b.nw x o (a.h x o h1) (a.nw x o h1 h2)⟩
theorem Stp.new {G H : Hp} (e : Ex G H) {p : Addr} {o : HO} (hp : H p = none) : Stp G H (upd G p o) (upd H p o) := by
  refine ⟨Ex.new (e.no hp), Ex.new hp, fun b u q => ?_, fun a u h1 h2 => ?_⟩
  · by_cases hb : b = p
    · subst hb; rw [upd_same] at q ⊢; exact q
    · rw [upd_ne hb] at q ⊢; exact e b u q
  · rw [upd_ne (ne_of_none h1 hp)]; exact h2
theorem Stp.newH {G H : Hp} (e : Ex G H) {p : Addr} {o : HO} (hp : H p = none) : Stp G H G (upd H p o) :=
  ⟨Ex.rfl' G, Ex.new hp, e.tr (Ex.new hp), fun _ _ _ h => h⟩
/-- an owned new list is handed over -/
theorem Stp.give {G H G' H' : Hp} (s : Stp G H G' H') {a : Addr} {o : HO} (h0 : H a = none) (hg : G' a = none) (hh : H' a = some o) : Stp G H (upd G' a o) H' := by
  refine ⟨s.g.tr (Ex.new hg), s.h, fun b u q => ?_, fun x u h1 h2 => ?_⟩
  · by_cases hb : b = a
    · subst hb; rw [upd_same] at q; cases q; exact hh
    · rw [upd_ne hb] at q; exact s.gh b u q
  · rw [upd_ne (ne_of_none h1 h0)]; exact s.nw x u h1 h2

/-! ### owned trees: every list and dict in it is one's own; its tuples and what they hold lie in G -/
mutual
inductive Ro (G H : Hp) : V → PyData → List Addr → Prop
  | non : Ro G H .non .none []
  | bl (b : Bool) : Ro G H (.bl b) (.bool b) []
  | int (i : Int) : Ro G H (.int i) (.int i) []
  | str (x : Str) : Ro G H (.str x) (.str x) []
  | lst {a : Addr} {xs : List V} {ds : List PyData} {f : List Addr} : H a = some (.lst xs) → Ros G H xs ds f → Ro G H (.ref a) (.list ds) (a :: f)
  | tup {a : Addr} {xs : List V} {ds : List PyData} {f : List Addr} : Rd G a (.tup xs) → Ros G H xs ds f → Ro G H (.ref a) (.tuple ds) f
  | dct {a : Addr} {kvs : List (Str × Int)} {ps : List (PyData × PyData)} : H a = some (.dK (kvs.map kvI)) → ps = kvs.map kvD → Ro G H (.ref a) (.dict ps) [a]
inductive Ros (G H : Hp) : List V → List PyData → List Addr → Prop
  | nil : Ros G H [] [] []
  | cons {v : V} {vs : List V} {d : PyData} {ds : List PyData} {f g : List Addr} : Ro G H v d f → Ros G H vs ds g → Ros G H (v :: vs) (d :: ds) (f ++ g)
end
mutual
theorem Ro.fr {G H G' H' : Hp} (e : ∀ a xs, Rd G a (.tup xs) → Rd G' a (.tup xs)) : ∀ (d : PyData) (v : V) (f : List Addr), Ro G H v d f → (∀ a ∈ f, H' a = H a) → Ro G' H' v d f
  | .none, _, _, h, _ => by cases h; exact .non
  | .bool b, _, _, h, _ => by cases h; exact .bl b
  | .int i, _, _, h, _ => by cases h; exact .int i
  | .str x, _, _, h, _ => by cases h; exact .str x
  | .list ds, _, _, h, q => by
    cases h with
    | lst h1 h2 => exact .lst ((q _ List.mem_cons_self).trans h1) (Ros.fr e ds _ _ h2 fun a m => q a (List.mem_cons_of_mem _ m))
  | .tuple ds, _, _, h, q => by
    cases h with
    | tup h1 h2 => exact .tup (e _ _ h1) (Ros.fr e ds _ _ h2 q)
  | .dict ps, _, _, h, q => by
    cases h with
    | dct h1 h2 => exact .dct ((q _ List.mem_cons_self).trans h1) h2
theorem Ros.fr {G H G' H' : Hp} (e : ∀ a xs, Rd G a (.tup xs) → Rd G' a (.tup xs)) : ∀ (ds : List PyData) (vs : List V) (f : List Addr), Ros G H vs ds f → (∀ a ∈ f, H' a = H a) → Ros G' H' vs ds f
  | [], _, _, h, _ => by cases h; exact .nil
  | d :: ds, _, _, h, q => by
    cases h with
    | cons h1 h2 => exact .cons (Ro.fr e d _ _ h1 fun a m => q a (List.mem_append_left _ m)) (Ros.fr e ds _ _ h2 fun a m => q a (List.mem_append_right _ m))
end
mutual
/-- seen as data: the owned ones lie in G', too -/
theorem Ro.rp {G H G' : Hp} (e : ∀ a xs, Rd G a (.tup xs) → Rd G' a (.tup xs)) : ∀ (d : PyData) (v : V) (f : List Addr), Ro G H v d f → (∀ a ∈ f, G' a = H a) → Rp G' v d
  | .none, _, _, h, _ => by cases h; exact .non
  | .bool b, _, _, h, _ => by cases h; exact .bl b
  | .int i, _, _, h, _ => by cases h; exact .int i
  | .str x, _, _, h, _ => by cases h; exact .str x
  | .list ds, _, _, h, q => by
    cases h with
    | lst h1 h2 => exact .lst (.inl ((q _ List.mem_cons_self).trans h1)) (Ros.rp e ds _ _ h2 fun a m => q a (List.mem_cons_of_mem _ m))
  | .tuple ds, _, _, h, q => by
    cases h with
    | tup h1 h2 => exact .tup (e _ _ h1) (Ros.rp e ds _ _ h2 q)
  | .dict ps, _, _, h, q => by
    cases h with
    | dct h1 h2 => exact .dct ((q _ List.mem_cons_self).trans h1) h2
theorem Ros.rp {G H G' : Hp} (e : ∀ a xs, Rd G a (.tup xs) → Rd G' a (.tup xs)) : ∀ (ds : List PyData) (vs : List V) (f : List Addr), Ros G H vs ds f → (∀ a ∈ f, G' a = H a) → Rps G' vs ds
  | [], _, _, h, _ => by cases h; exact .nil
  | d :: ds, _, _, h, q => by
    cases h with
    | cons h1 h2 => exact .cons (Ro.rp e d _ _ h1 fun a m => q a (List.mem_append_left _ m)) (Ros.rp e ds _ _ h2 fun a m => q a (List.mem_append_right _ m))
end
/-- a list or a dict -/
def Mt (H : Hp) (a : Addr) : Prop := (∃ xs, H a = some (.lst xs)) ∨ ∃ kvs, H a = some (.dK kvs)
mutual
theorem Ro.mt {G H : Hp} : ∀ (d : PyData) (v : V) (f : List Addr), Ro G H v d f → ∀ a ∈ f, Mt H a
  | .none, _, _, h, a, m => by cases h; cases m
  | .bool b, _, _, h, a, m => by cases h; cases m
  | .int i, _, _, h, a, m => by cases h; cases m
  | .str x, _, _, h, a, m => by cases h; cases m
  | .list ds, _, _, h, a, m => by
    cases h with
    | lst h1 h2 =>
      rcases List.mem_cons.mp m with rfl | m
      · exact .inl ⟨_, h1⟩
      · exact Ros.mt ds _ _ h2 a m
  | .tuple ds, _, _, h, a, m => by
    cases h with
    | tup h1 h2 => exact Ros.mt ds _ _ h2 a m
  | .dict ps, _, _, h, a, m => by
    cases h with
    | dct h1 h2 =>
      rcases List.mem_cons.mp m with rfl | m
      · exact .inr ⟨_, h1⟩
      · cases m
theorem Ros.mt {G H : Hp} : ∀ (ds : List PyData) (vs : List V) (f : List Addr), Ros G H vs ds f → ∀ a ∈ f, Mt H a
  | [], _, _, h, a, m => by cases h; cases m
  | d :: ds, _, _, h, a, m => by
    cases h with
    | cons h1 h2 =>
      rcases List.mem_append.mp m with m | m
      · exact Ro.mt d _ _ h1 a m
      · exact Ros.mt ds _ _ h2 a m
end
mutual
/-- no list, no dict in it -/
def noL : PyData → Bool
  | .list _ => false
  | .dict _ => false
  | .tuple ds => noLs ds
  | _ => true
def noLs : List PyData → Bool
  | [] => true
  | d :: ds => noL d && noLs ds
end
mutual
theorem Rp.ro {G H : Hp} : ∀ (d : PyData) (v : V), noL d = true → Rp G v d → Ro G H v d []
  | .none, _, _, h => by cases h; exact .non
  | .bool b, _, _, h => by cases h; exact .bl b
  | .int i, _, _, h => by cases h; exact .int i
  | .str x, _, _, h => by cases h; exact .str x
  | .list ds, _, c, h => by simp [noL] at c
  | .tuple ds, _, c, h => by
    cases h with
    | tup h1 h2 => exact .tup h1 (Rps.ros ds _ (by simpa only [noL] using c) h2)
  | .dict ps, _, c, h => by simp [noL] at c
theorem Rps.ros {G H : Hp} : ∀ (ds : List PyData) (vs : List V), noLs ds = true → Rps G vs ds → Ros G H vs ds []
  | [], _, _, h => by cases h; exact .nil
  | d :: ds, _, c, h => by
    cases h with
    | cons h1 h2 =>
      have c' : noL d = true ∧ noLs ds = true := by simpa only [noLs, Bool.and_eq_true] using c
      exact Ros.cons (f := []) (g := []) (Rp.ro d _ c'.1 h1) (Rps.ros ds _ c'.2 h2)
end
theorem Rp.noL {G G' : Hp} {v : V} {d : PyData} (h : Rp G v d) (c : noL d = true) (e : ∀ a xs, Rd G a (.tup xs) → Rd G' a (.tup xs)) : Rp G' v d :=
  Ro.rp e d v [] (Rp.ro (H := G) d v c h) fun _ m => by cases m
theorem Rps.noL {G G' : Hp} {v : List V} {d : List PyData} (h : Rps G v d) (c : noLs d = true) (e : ∀ a xs, Rd G a (.tup xs) → Rd G' a (.tup xs)) : Rps G' v d :=
  Ros.rp e d v [] (Rps.ros (H := G) d v c h) fun _ m => by cases m

theorem Ros.len {G H : Hp} : ∀ (ds : List PyData) (vs : List V) (f : List Addr), Ros G H vs ds f → vs.length = ds.length
  | [], _, _, h => by cases h; rfl
  | d :: ds, _, _, h => by
    cases h with
    | cons h1 h2 => exact congrArg (· + 1) (Ros.len ds _ _ h2)
section
open Classical
/-- new ones are handed over -/
theorem Stp.giveL {G H G' H' : Hp} (s : Stp G H G' H') (f : List Addr) (hf : ∀ a ∈ f, H a = none ∧ G' a = none) :
    Stp G H (fun a => if a ∈ f then H' a else G' a) H' ∧ (∀ a xs, Rd G' a (.tup xs) → Rd (fun a => if a ∈ f then H' a else G' a) a (.tup xs)) ∧ ∀ a ∈ f, (if a ∈ f then H' a else G' a) = H' a := by
  have e : Ex G' (fun a => if a ∈ f then H' a else G' a) := fun a o q => by
    by_cases m : a ∈ f
    · rw [(hf a m).2] at q; cases q
    · show (if a ∈ f then H' a else G' a) = _
      rw [if_neg m]; exact q
  refine ⟨⟨s.g.tr e, s.h, fun a o q => ?_, fun a o q q' => ?_⟩, fun a xs r => e.rd r, fun a m => if_pos m⟩
  · by_cases m : a ∈ f
    · have q' : (if a ∈ f then H' a else G' a) = some o := q
      rw [if_pos m] at q'; exact q'
    · have q' : (if a ∈ f then H' a else G' a) = some o := q
      rw [if_neg m] at q'; exact s.gh a o q'
  · show (if a ∈ f then H' a else G' a) = none
    by_cases m : a ∈ f
    · rw [(hf a m).1] at q; cases q
    · rw [if_neg m]; exact s.nw a o q q'
end
/-! ### slots -/
inductive Sl where
  | un
  | d (x : PyData)
  | ex (a : Addr)
  | own (ds : List PyData)
  | ownD (kvs : List (Str × Int))
  | ow (x : PyData)
/-- f: what is one's own -/
def SlOk (G H : Hp) (o : Option (Option V)) (f : List Addr) : Sl → Prop
  | .un => True
  | .d x => ∃ v, o = some (some v) ∧ Rp G v x
  | .ex a => o = some (some (.ref a))
  | .own ds => ∃ a vs, o = some (some (.ref a)) ∧ a ∈ f ∧ H a = some (.lst vs) ∧ Rps G vs ds
  | .ownD kvs => ∃ a, o = some (some (.ref a)) ∧ a ∈ f ∧ H a = some (.dK (kvs.map kvI))
  | .ow x => ∃ v g, o = some (some v) ∧ Ro G H v x g ∧ g.Nodup ∧ ∀ a ∈ g, a ∈ f
/-- where one began: the immutable heap that a loop holds on to; the two heaps at the def's entry (less what the def may change of it) -/
structure Bs where
  gb : Hp
  g0 : Hp
  h0 : Hp
structure OkF (B : Bs) (G : Hp) (σ : St) (H : Hp) (Γ : List Sl) (F : Nat → List Addr) : Prop where
  eb : Ex B.gb G
  st : Stp B.g0 B.h0 G H
  len : σ.length = Γ.length
  sl : ∀ (i : Nat) (s : Sl), Γ[i]? = some s → SlOk G H σ[i]? (F i) s
  fr : ∀ (i : Nat) (a : Addr), a ∈ F i → B.h0 a = none ∧ G a = none ∧ Mt H a
  ap : ∀ (i j : Nat) (a : Addr), i ≠ j → a ∈ F i → a ∈ F j → False
def Ok (B : Bs) (G : Hp) (σ : St) (H : Hp) (Γ : List Sl) : Prop := ∃ F, OkF B G σ H Γ F
section
variable {B : Bs} {G G' H H' : Hp} {σ : St} {Γ : List Sl} {F : Nat → List Addr}
theorem Mt.some {a : Addr} (h : Mt H a) : ∃ o, H a = some o := by
  rcases h with ⟨_, h⟩ | ⟨_, h⟩ <;> exact ⟨_, h⟩
theorem Mt.of {a : Addr} (h : Mt H a) (e : H' a = H a) : Mt H' a := by
  rcases h with ⟨_, h⟩ | ⟨_, h⟩
  · exact .inl ⟨_, e.trans h⟩
  · exact .inr ⟨_, e.trans h⟩
theorem Mt.ex {a : Addr} (h : Mt H a) (e : Ex H H') : H' a = H a := by
  obtain ⟨o, q⟩ := h.some
  rw [q]; exact e a o q
theorem exTup (e : Ex G G') : ∀ a xs, Rd G a (.tup xs) → Rd G' a (.tup xs) := fun _ _ h => e.rd h
/-- the frame rule -/
theorem SlOk.fr {o : Option (Option V)} {f : List Addr} {s : Sl} (h : SlOk G H o f s) (e : Ex G G') (q : ∀ a ∈ f, H' a = H a) : SlOk G' H' o f s := by
  cases s with
  | un => trivial
  | d x => obtain ⟨v, e1, r⟩ := h; exact ⟨v, e1, r.up e⟩
  | ex a => exact h
  | own ds => obtain ⟨a, vs, e1, m, hh, r⟩ := h; exact ⟨a, vs, e1, m, (q a m).trans hh, r.up e⟩
  | ownD kvs => obtain ⟨a, e1, m, hh⟩ := h; exact ⟨a, e1, m, (q a m).trans hh⟩
  | ow x => obtain ⟨v, g, e1, r, nd, m⟩ := h; exact ⟨v, g, e1, r.fr (exTup e) _ _ _ fun a ha => q a (m a ha), nd, m⟩
theorem OkF.step (k : OkF B G σ H Γ F) (p : Stp G H G' H') : OkF B G' σ H' Γ F :=
  ⟨k.eb.tr p.g, k.st.tr p, k.len, fun i s e => (k.sl i s e).fr p.g fun a m => (k.fr i a m).2.2.ex p.h, fun i a m => by
    obtain ⟨h0, hg, hm⟩ := k.fr i a m
    obtain ⟨o, q⟩ := hm.some
    exact ⟨h0, p.nw a o q hg, hm.of (hm.ex p.h)⟩, k.ap⟩
theorem Ok.step (k : Ok B G σ H Γ) (p : Stp G H G' H') : Ok B G' σ H' Γ := let ⟨F, k⟩ := k; ⟨F, k.step p⟩
theorem Ok.st (k : Ok B G σ H Γ) : Stp B.g0 B.h0 G H := let ⟨_, k⟩ := k; k.st
theorem Ok.eb (k : Ok B G σ H Γ) : Ex B.gb G := let ⟨_, k⟩ := k; k.eb
theorem Ok.len (k : Ok B G σ H Γ) : σ.length = Γ.length := let ⟨_, k⟩ := k; k.len
theorem Ok.gh (k : Ok B G σ H Γ) : Ex G H := k.st.gh
theorem Ok.reb (k : Ok B G σ H Γ) {gb : Hp} (e : Ex gb G) : Ok ⟨gb, B.g0, B.h0⟩ G σ H Γ := by
  obtain ⟨F, k⟩ := k
  exact ⟨F, e, k.st, k.len, k.sl, k.fr, k.ap⟩
theorem Ok.dat (k : Ok B G σ H Γ) {i : Nat} {x : PyData} (e : Γ[i]? = some (.d x)) : ∃ v, σ[i]? = some (some v) ∧ Rp G v x := by
  obtain ⟨F, k⟩ := k
  exact k.sl i _ e
theorem Ok.exc (k : Ok B G σ H Γ) {i : Nat} {a : Addr} (e : Γ[i]? = some (.ex a)) : σ[i]? = some (some (.ref a)) := by
  obtain ⟨F, k⟩ := k
  exact k.sl i _ e
theorem Ok.own (k : Ok B G σ H Γ) {i : Nat} {ds : List PyData} (e : Γ[i]? = some (.own ds)) : ∃ a vs, σ[i]? = some (some (.ref a)) ∧ B.h0 a = none ∧ G a = none ∧ H a = some (.lst vs) ∧ Rps G vs ds := by
  obtain ⟨F, k⟩ := k
  obtain ⟨a, vs, e1, m, hh, r⟩ := k.sl i _ e
  obtain ⟨h0, hg, _⟩ := k.fr i a m
  exact ⟨a, vs, e1, h0, hg, hh, r⟩
theorem Ok.ownD (k : Ok B G σ H Γ) {i : Nat} {kvs : List (Str × Int)} (e : Γ[i]? = some (.ownD kvs)) : ∃ a, σ[i]? = some (some (.ref a)) ∧ B.h0 a = none ∧ G a = none ∧ H a = some (.dK (kvs.map kvI)) := by
  obtain ⟨F, k⟩ := k
  obtain ⟨a, e1, m, hh⟩ := k.sl i _ e
  obtain ⟨h0, hg, _⟩ := k.fr i a m
  exact ⟨a, e1, h0, hg, hh⟩
/-- a slot is stored: f, new ones of its own, or none -/
theorem OkF.setF (k : OkF B G σ H Γ F) (i : Nat) {v : Option V} {s : Sl} {f : List Addr} (hs : SlOk G H (some v) f s) (hf : ∀ a ∈ f, B.h0 a = none ∧ G a = none ∧ Mt H a) (hn : ∀ a ∈ f, ∀ j, j ≠ i → a ∉ F j) :
    OkF B G (σ.set i v) H (Γ.set i s) (fun j => if j = i then f else F j) := by
  refine ⟨k.eb, k.st, by rw [List.length_set, List.length_set]; exact k.len, fun j t e => ?_, fun j a m => ?_, fun j l a hne m1 m2 => ?_⟩
  · by_cases hj : i = j
    · subst hj
      by_cases hi : i < Γ.length
      · rw [List.getElem?_set_self hi] at e
        cases e
        rw [List.getElem?_set_self (by rw [k.len]; exact hi), if_pos rfl]
        exact hs
      · rw [List.getElem?_eq_none (by rw [List.length_set]; omega)] at e
        cases e
    · rw [List.getElem?_set_ne hj] at e ⊢
      rw [if_neg (Ne.symm hj)]
      exact k.sl j t e
  · by_cases hj : j = i
    · rw [if_pos hj] at m; exact hf a m
    · rw [if_neg hj] at m; exact k.fr j a m
  · by_cases hj : j = i
    · rw [if_pos hj] at m1
      rw [if_neg (fun z => hne (hj.trans z.symm))] at m2
      exact hn a m1 l (fun z => hne (hj.trans z.symm)) m2
    · rw [if_neg hj] at m1
      by_cases hl : l = i
      · rw [if_pos hl] at m2; exact hn a m2 j hj m1
      · rw [if_neg hl] at m2; exact k.ap j l a hne m1 m2
theorem Ok.setD (k : Ok B G σ H Γ) (i : Nat) {v : V} {x : PyData} (r : Rp G v x) : Ok B G (σ.set i (some v)) H (Γ.set i (.d x)) :=
  let ⟨_, k⟩ := k
  ⟨_, k.setF i (f := []) ⟨v, rfl, r⟩ (fun _ m => by cases m) (fun _ m => by cases m)⟩
theorem Ok.setU (k : Ok B G σ H Γ) (i : Nat) (v : Option V) : Ok B G (σ.set i v) H (Γ.set i .un) :=
  let ⟨_, k⟩ := k
  ⟨_, k.setF i (f := []) trivial (fun _ m => by cases m) (fun _ m => by cases m)⟩
theorem Ok.setE (k : Ok B G σ H Γ) (i : Nat) (a : Addr) : Ok B G (σ.set i (some (.ref a))) H (Γ.set i (.ex a)) :=
  let ⟨_, k⟩ := k
  ⟨_, k.setF i (f := []) rfl (fun _ m => by cases m) (fun _ m => by cases m)⟩
/-- .. new ones, made by a step -/
theorem Ok.setF (k : Ok B G σ H Γ) (p : Stp G H G' H') (i : Nat) {v : V} {s : Sl} {f : List Addr} (hs : SlOk G' H' (some (some v)) f s) (hf : ∀ a ∈ f, H a = none ∧ G' a = none ∧ Mt H' a) : Ok B G' (σ.set i (some v)) H' (Γ.set i s) := by
  obtain ⟨F, k⟩ := k
  refine ⟨_, (k.step p).setF i hs (fun a m => ⟨k.st.h.no (hf a m).1, (hf a m).2⟩) fun a m j _ mj => ?_⟩
  obtain ⟨o, q⟩ := (k.fr j a mj).2.2.some
  rw [(hf a m).1] at q
  cases q
/-- what is known less -/
theorem Ok.weak (k : Ok B G σ H Γ) {Γ' : List Sl} (hl : Γ'.length = Γ.length) (h : ∀ (i : Nat) (s : Sl), Γ'[i]? = some s → s = .un ∨ Γ[i]? = some s) : Ok B G σ H Γ' := by
  obtain ⟨F, k⟩ := k
  refine ⟨F, k.eb, k.st, k.len.trans hl.symm, fun i s e => ?_, k.fr, k.ap⟩
  rcases h i s e with q | q
  · rw [q]; trivial
  · exact k.sl i s q
/-- what is one's own at i is changed: f, what is one's own then -/
theorem OkF.mut (k : OkF B G σ H Γ F) {i : Nat} {H' : Hp} {s' : Sl} (hc : ∀ b, b ∉ F i → H' b = H b) (hg : ∀ b ∈ F i, Mt H' b) (hs : SlOk G H' σ[i]? (F i) s') : OkF B G σ H' (Γ.set i s') F := by
  have hne : ∀ {b : Addr}, B.h0 b ≠ none → b ∉ F i := fun hb m => hb (k.fr i _ m).1
  have hng : ∀ {b : Addr}, G b ≠ none → b ∉ F i := fun hb m => hb (k.fr i _ m).2.1
  refine ⟨k.eb, ⟨k.st.g, fun b u q => ?_, fun b u q => ?_, k.st.nw⟩, by rw [List.length_set]; exact k.len, fun j t et => ?_, fun j a m => ?_, k.ap⟩
  · rw [hc b (hne (by rw [q]; exact fun z => by cases z))]; exact k.st.h b u q
  · rw [hc b (hng (by rw [q]; exact fun z => by cases z))]; exact k.st.gh b u q
  · by_cases hj : i = j
    · subst hj
      have hi : i < Γ.length := by
        have := (List.getElem?_eq_some_iff.mp et).1
        rw [List.length_set] at this; exact this
      rw [List.getElem?_set_self hi] at et
      cases et
      exact hs
    · rw [List.getElem?_set_ne hj] at et
      exact (k.sl j t et).fr (Ex.rfl' G) fun a m => hc a fun z => k.ap i j a hj z m
  · by_cases hj : i = j
    · subst hj
      exact ⟨(k.fr i a m).1, (k.fr i a m).2.1, hg a m⟩
    · exact ⟨(k.fr j a m).1, (k.fr j a m).2.1, (k.fr j a m).2.2.of (hc a fun z => k.ap i j a hj z m)⟩
/-- an owned list is handed over for good -/
theorem Ok.freeze (k : Ok B G σ H Γ) {i : Nat} {ds : List PyData} (e : Γ[i]? = some (.own ds)) : ∃ G', Ex G G' ∧ Ok B G' σ H (Γ.set i (.d (.list ds))) := by
  obtain ⟨F, k⟩ := k
  obtain ⟨a, vs, e1, m, hh, r⟩ := k.sl i _ e
  obtain ⟨h0, hg, _⟩ := k.fr i a m
  have st := k.st.give h0 hg hh
  have eg : Ex G (upd G a (.lst vs)) := Ex.new hg
  refine ⟨upd G a (.lst vs), eg, fun j => if j = i then [] else F j, k.eb.tr eg, st, by rw [List.length_set]; exact k.len, fun j t et => ?_, fun j b mb => ?_, fun j l b hne m1 m2 => ?_⟩
  · by_cases hj : i = j
    · subst hj
      have hi : i < Γ.length := (List.getElem?_eq_some_iff.mp e).1
      rw [List.getElem?_set_self hi] at et
      cases et
      exact ⟨.ref a, e1, .lst (.inl upd_same) (r.up eg)⟩
    · rw [List.getElem?_set_ne hj] at et
      rw [if_neg (Ne.symm hj)]
      exact (k.sl j t et).fr eg fun _ _ => rfl
  · by_cases hj : j = i
    · rw [if_pos hj] at mb; cases mb
    · rw [if_neg hj] at mb
      obtain ⟨b0, bg, bm⟩ := k.fr j b mb
      exact ⟨b0, by rw [upd_ne (fun z => by subst z; exact k.ap i j _ (Ne.symm hj) m mb)]; exact bg, bm⟩
  · by_cases hj : j = i
    · rw [if_pos hj] at m1; cases m1
    · rw [if_neg hj] at m1
      by_cases hl : l = i
      · rw [if_pos hl] at m2; cases m2
      · rw [if_neg hl] at m2; exact k.ap j l b hne m1 m2
end
end Ck

namespace Ck
open PySem PySem.Spec L2

/-! ### what evaluates to what -/
def Ev (te : TE) (Γ : List Sl) (d : PyData) : Prop := ∀ (B : Bs) (G : Hp) (σ : L2.St) (H : Hp), Ok B G σ H Γ → ∀ Q : VK, (∀ v G' H', Stp G H G' H' → Rp G' v d → Q v H') → te σ H Q
/-- a new list, not handed over yet -/
def EvN (te : TE) (Γ : List Sl) (ds : List PyData) : Prop := ∀ (B : Bs) (G : Hp) (σ : L2.St) (H : Hp), Ok B G σ H Γ → ∀ Q : VK, (∀ a vs G' H', Stp G H G' H' → H a = none → G' a = none → H' a = some (.lst vs) → Rps G' vs ds → Q (.ref a) H') → te σ H Q
def EvA (ta : TA) (Γ : List Sl) (ds : List PyData) : Prop := ∀ (B : Bs) (G : Hp) (σ : L2.St) (H : Hp), Ok B G σ H Γ → ∀ Q : List V → Hp → Prop, (∀ vs G' H', Stp G H G' H' → Rps G' vs ds → Q vs H') → ta σ H Q
def EvT (tt : TT) (Γ : List Sl) (b : Bool) : Prop := ∀ (B : Bs) (G : Hp) (σ : L2.St) (H : Hp), Ok B G σ H Γ → ∀ Q : Bool → Hp → Prop, (∀ G' H', Stp G H G' H' → Q b H') → tt σ H Q
def EvO (to : TO) (Γ : List Sl) (o : Option Int) : Prop := ∀ (B : Bs) (G : Hp) (σ : L2.St) (H : Hp), Ok B G σ H Γ → ∀ Q : Option Int → Hp → Prop, (∀ G' H', Stp G H G' H' → Q o H') → to σ H Q
/-- operations by their data -/
def RvD (r : R2) (x y z : PyData) : Prop := ∀ (G H : Hp) (v u : V), Ex G H → Rp G v x → Rp G u y → ∀ Q : VK, (∀ w G' H', Stp G H G' H' → Rp G' w z → Q w H') → r v u H Q
def RvN (r : R2) (x y : PyData) (ds : List PyData) : Prop := ∀ (G H : Hp) (v u : V), Ex G H → Rp G v x → Rp G u y → ∀ Q : VK, (∀ a vs G' H', Stp G H G' H' → H a = none → G' a = none → H' a = some (.lst vs) → Rps G' vs ds → Q (.ref a) H') → r v u H Q
def RuD (r : V → Hp → VK → Prop) (x z : PyData) : Prop := ∀ (G H : Hp) (v : V), Ex G H → Rp G v x → ∀ Q : VK, (∀ w G' H', Stp G H G' H' → Rp G' w z → Q w H') → r v H Q
def RcD (r : List V → Hp → VK → Prop) (xs : List PyData) (z : PyData) : Prop := ∀ (G H : Hp) (vs : List V), Ex G H → Rps G vs xs → ∀ Q : VK, (∀ w G' H', Stp G H G' H' → Rp G' w z → Q w H') → r vs H Q
def RcN (r : List V → Hp → VK → Prop) (xs : List PyData) (ds : List PyData) : Prop := ∀ (G H : Hp) (vs : List V), Ex G H → Rps G vs xs → ∀ Q : VK, (∀ a vs G' H', Stp G H G' H' → H a = none → G' a = none → H' a = some (.lst vs) → Rps G' vs ds → Q (.ref a) H') → r vs H Q
def RmD (T : String) (r : V → List V → Hp → VK → Prop) (x : PyData) (xs : List PyData) (z : PyData) : Prop := ∀ (K : PySem.W.Frag) (G H : Hp) (v : V) (vs : List V), Ex G H → Rp G v x → (∀ H1 : Hp, Ex G H1 → tyV K T v H1) ∧ (Rps G vs xs → ∀ Q : VK, (∀ w G' H', Stp G H G' H' → Rp G' w z → Q w H') → r v vs H Q)
def RsD (r : V → Option Int → Option Int → Hp → VK → Prop) (x : PyData) (lo hi : Option Int) (z : PyData) : Prop := ∀ (G H : Hp) (v : V), Ex G H → Rp G v x → ∀ Q : VK, (∀ w G' H', Stp G H G' H' → Rp G' w z → Q w H') → r v lo hi H Q
def RsN (r : V → Option Int → Option Int → Hp → VK → Prop) (x : PyData) (lo hi : Option Int) (ds : List PyData) : Prop := ∀ (G H : Hp) (v : V), Ex G H → Rp G v x → ∀ Q : VK, (∀ a vs G' H', Stp G H G' H' → H a = none → G' a = none → H' a = some (.lst vs) → Rps G' vs ds → Q (.ref a) H') → r v lo hi H Q

section
variable {K : PySem.W.Frag} {Γ : List Sl} {ta tb te : TE} {t u : TT} {d x y z : PyData} {ds xs ys : List PyData} {b c : Bool} {i : Nat} {r : R2}
theorem EvN.ev (h : EvN te Γ ds) : Ev te Γ (.list ds) := fun B G σ H ok Q q => h B G σ H ok Q fun a vs G' H' s h0 hg hh rr =>
  q (.ref a) _ H' (s.give h0 hg hh) (.lst (.inl upd_same) (rr.up (Ex.new hg)))
theorem ev_var (h : Γ[i]? = some (.d d)) : Ev (tVar i) Γ d := fun B G σ H ok Q q => by
  obtain ⟨v, e, r⟩ := ok.dat h
  exact ⟨v, e, q v G H (Stp.rfl' ok.gh) r⟩
theorem ev_int {n : Int} : Ev (tC (.int n)) Γ (.int n) := fun B G σ H ok Q q => q _ G H (Stp.rfl' ok.gh) (.int n)
theorem ev_str {n : Str} : Ev (tC (.str n)) Γ (.str n) := fun B G σ H ok Q q => q _ G H (Stp.rfl' ok.gh) (.str n)
theorem ev_bl {n : Bool} : Ev (tC (.bl n)) Γ (.bool n) := fun B G σ H ok Q q => q _ G H (Stp.rfl' ok.gh) (.bl n)
theorem ev_non : Ev (tC .non) Γ .none := fun B G σ H ok Q q => q _ G H (Stp.rfl' ok.gh) .non
theorem ev_is {d' : PyData} (h : Ev te Γ d) (e : d = d') : Ev te Γ d' := e ▸ h
theorem ev_op (ha : Ev ta Γ x) (hb : Ev tb Γ y) (hr : RvD r x y z) : Ev (tOp r ta tb) Γ z := fun B G σ H ok Q q =>
  ha B G σ H ok _ fun v G1 H1 s1 r1 => hb B G1 σ H1 (ok.step s1) _ fun u G2 H2 s2 r2 => hr G2 H2 v u s2.gh (r1.up s2.g) r2 Q fun w G3 H3 s3 r3 => q w G3 H3 ((s1.tr s2).tr s3) r3
theorem evN_op (ha : Ev ta Γ x) (hb : Ev tb Γ y) (hr : RvN r x y ds) : EvN (tOp r ta tb) Γ ds := fun B G σ H ok Q q =>
  ha B G σ H ok _ fun v G1 H1 s1 r1 => hb B G1 σ H1 (ok.step s1) _ fun u G2 H2 s2 r2 => hr G2 H2 v u s2.gh (r1.up s2.g) r2 Q fun a vs G3 H3 s3 h0 hg hh r3 =>
    q a vs G3 H3 ((s1.tr s2).tr s3) ((s1.h.tr s2.h).no h0) hg hh r3
theorem ev_un {r : V → Hp → VK → Prop} (ha : Ev ta Γ x) (hr : RuD r x z) : Ev (tUn r ta) Γ z := fun B G σ H ok Q q =>
  ha B G σ H ok _ fun v G1 H1 s1 r1 => hr G1 H1 v s1.gh r1 Q fun w G3 H3 s3 r3 => q w G3 H3 (s1.tr s3) r3
theorem ea_nil : EvA tNil Γ [] := fun B G σ H ok Q q => q [] G H (Stp.rfl' ok.gh) .nil
theorem ea_cons {tr : TA} (ha : Ev ta Γ x) (hr : EvA tr Γ xs) : EvA (tCons ta tr) Γ (x :: xs) := fun B G σ H ok Q q =>
  ha B G σ H ok _ fun v G1 H1 s1 r1 => hr B G1 σ H1 (ok.step s1) _ fun vs G2 H2 s2 r2 => q (v :: vs) G2 H2 (s1.tr s2) (.cons (r1.up s2.g) r2)
theorem ev_tup {t : TA} (h : EvA t Γ xs) (hl : xs.length ≤ sizeLine) : Ev (tTup t) Γ (.tuple xs) := fun B G σ H ok Q q =>
  h B G σ H ok _ fun vs G1 H1 s1 r1 => ⟨by rw [r1.length]; exact hl, fun p hp => q (.ref p) _ _ (s1.tr (Stp.new s1.gh hp)) (.tup (.inl upd_same) (r1.up (Ex.new (s1.gh.no hp))))⟩
theorem evN_lst {t : TA} (h : EvA t Γ xs) (hl : xs.length ≤ sizeLine) : EvN (tLst t) Γ xs := fun B G σ H ok Q q =>
  h B G σ H ok _ fun vs G1 H1 s1 r1 => ⟨by rw [r1.length]; exact hl, fun p hp => q p vs G1 _ (s1.tr (Stp.newH s1.gh hp)) (s1.h.no hp) (s1.gh.no hp) upd_same r1⟩
theorem ev_cb {t : TA} {r : List V → Hp → VK → Prop} (h : EvA t Γ xs) (hr : RcD r xs z) : Ev (tCB r t) Γ z := fun B G σ H ok Q q =>
  h B G σ H ok _ fun vs G1 H1 s1 r1 => hr G1 H1 vs s1.gh r1 Q fun w G3 H3 s3 r3 => q w G3 H3 (s1.tr s3) r3
theorem evN_cb {t : TA} {r : List V → Hp → VK → Prop} (h : EvA t Γ xs) (hr : RcN r xs ds) : EvN (tCB r t) Γ ds := fun B G σ H ok Q q =>
  h B G σ H ok _ fun vs G1 H1 s1 r1 => hr G1 H1 vs s1.gh r1 Q fun a ws G3 H3 s3 h0 hg hh r3 => q a ws G3 H3 (s1.tr s3) (s1.h.no h0) hg hh r3
theorem ev_bm {t : TA} {T : String} {r : V → List V → Hp → VK → Prop} (ho : Ev te Γ x) (h : EvA t Γ xs) (hr : RmD T r x xs z) : Ev (tBM K T r te t) Γ z := fun B G σ H ok Q q =>
  ho B G σ H ok _ fun v G1 H1 s1 r1 => ⟨(hr K G1 H1 v [] s1.gh r1).1 H1 s1.gh, h B G1 σ H1 (ok.step s1) _ fun vs G2 H2 s2 r2 => (hr K G2 H2 v vs s2.gh (r1.up s2.g)).2 r2 Q fun w G3 H3 s3 r3 => q w G3 H3 ((s1.tr s2).tr s3) r3⟩
/-! slices -/
theorem eo_none : EvO tNoPart Γ none := fun B G σ H ok Q q => q G H (Stp.rfl' ok.gh)
theorem eo_some {n : Int} (h : Ev te Γ (.int n)) : EvO (tPart te) Γ (some n) := fun B G σ H ok Q q => h B G σ H ok _ fun v G1 H1 s1 r1 => by
  cases r1; exact ⟨n, rfl, q G1 H1 s1⟩
theorem ev_sl {r : V → Option Int → Option Int → Hp → VK → Prop} {tl th : TO} {lo hi : Option Int} (ha : Ev te Γ x) (h1 : EvO tl Γ lo) (h2 : EvO th Γ hi) (hr : RsD r x lo hi z) : Ev (tSl r te tl th) Γ z := fun B G σ H ok Q q =>
  ha B G σ H ok _ fun v G1 H1 s1 r1 => h1 B G1 σ H1 (ok.step s1) _ fun G2 H2 s2 => h2 B G2 σ H2 (ok.step (s1.tr s2)) _ fun G3 H3 s3 => hr G3 H3 v s3.gh (r1.up (s2.g.tr s3.g)) Q fun w G4 H4 s4 r4 => q w G4 H4 (((s1.tr s2).tr s3).tr s4) r4
theorem evN_sl {r : V → Option Int → Option Int → Hp → VK → Prop} {tl th : TO} {lo hi : Option Int} (ha : Ev te Γ x) (h1 : EvO tl Γ lo) (h2 : EvO th Γ hi) (hr : RsN r x lo hi ds) : EvN (tSl r te tl th) Γ ds := fun B G σ H ok Q q =>
  ha B G σ H ok _ fun v G1 H1 s1 r1 => h1 B G1 σ H1 (ok.step s1) _ fun G2 H2 s2 => h2 B G2 σ H2 (ok.step (s1.tr s2)) _ fun G3 H3 s3 => hr G3 H3 v s3.gh (r1.up (s2.g.tr s3.g)) Q fun a vs G4 H4 s4 h0 hg hh r4 =>
    q a vs G4 H4 (((s1.tr s2).tr s3).tr s4) (((s1.h.tr s2.h).tr s3.h).no h0) hg hh r4
/-! tests -/
theorem et_test (h : Ev te Γ (.bool b)) : EvT (tTest te) Γ b := fun B G σ H ok Q q => h B G σ H ok _ fun v G1 H1 s1 r1 => by cases r1; exact ⟨b, rfl, q G1 H1 s1⟩
theorem et_B (h : Ev te Γ (.bool b)) : EvT (tB te) Γ b := fun B G σ H ok Q q => h B G σ H ok _ fun v G1 H1 s1 r1 => by cases r1; exact ⟨b, rfl, q G1 H1 s1⟩
theorem et_is (h : EvT t Γ b) (e : b = c) : EvT t Γ c := e ▸ h
theorem et_yes : EvT tYes Γ true := fun B G σ H ok Q q => q G H (Stp.rfl' ok.gh)
theorem et_and (h1 : EvT t Γ b) (h2 : b = true → EvT u Γ c) : EvT (tAnd t u) Γ (b && c) := fun B G σ H ok Q q => h1 B G σ H ok _ fun G1 H1 s1 => by
  cases b with
  | true => exact h2 rfl B G1 σ H1 (ok.step s1) Q fun G2 H2 s2 => q G2 H2 (s1.tr s2)
  | false => exact q G1 H1 s1
theorem et_or (h1 : EvT t Γ b) (h2 : b = false → EvT u Γ c) : EvT (tOr t u) Γ (b || c) := fun B G σ H ok Q q => h1 B G σ H ok _ fun G1 H1 s1 => by
  cases b with
  | true => exact q G1 H1 s1
  | false => exact h2 rfl B G1 σ H1 (ok.step s1) Q fun G2 H2 s2 => q G2 H2 (s1.tr s2)
theorem et_not (h1 : EvT t Γ b) : EvT (tNot t) Γ (!b) := fun B G σ H ok Q q => h1 B G σ H ok _ q
theorem ev_andV (h1 : Ev ta Γ (.bool b)) (h2 : b = true → Ev tb Γ (.bool c)) : Ev (tAndV ta tb) Γ (.bool (b && c)) := fun B G σ H ok Q q => h1 B G σ H ok _ fun v G1 H1 s1 r1 => by
  cases r1
  refine ⟨b, rfl, ?_⟩
  cases b with
  | true => exact h2 rfl B G1 σ H1 (ok.step s1) Q fun w G2 H2 s2 r2 => q w G2 H2 (s1.tr s2) r2
  | false => exact q _ G1 H1 s1 (.bl false)
theorem ev_orV (h1 : Ev ta Γ (.bool b)) (h2 : b = false → Ev tb Γ (.bool c)) : Ev (tOrV ta tb) Γ (.bool (b || c)) := fun B G σ H ok Q q => h1 B G σ H ok _ fun v G1 H1 s1 r1 => by
  cases r1
  refine ⟨b, rfl, ?_⟩
  cases b with
  | true => exact q _ G1 H1 s1 (.bl true)
  | false => exact h2 rfl B G1 σ H1 (ok.step s1) Q fun w G2 H2 s2 r2 => q w G2 H2 (s1.tr s2) r2
theorem ev_notV (h1 : Ev ta Γ (.bool b)) : Ev (tNotV ta) Γ (.bool (!b)) := fun B G σ H ok Q q => h1 B G σ H ok _ fun v G1 H1 s1 r1 => by
  cases r1
  exact ⟨b, rfl, q _ G1 H1 s1 (.bl _)⟩
end

/-! ### what is one's own, read -/
def Sl.fz : Sl → Sl
  | .own ds => .d (.list ds)
  | .ownD kvs => .d (.dict (kvs.map kvD))
  | .ow x => .d x
  | s => s
section
open Classical
/-- G with what is one's own; without -/
noncomputable def gPlus (F : Nat → List Addr) (G H : Hp) : Hp := fun a => if ∃ i, a ∈ F i then H a else G a
noncomputable def gMinus (F : Nat → List Addr) (G : Hp) : Hp := fun a => if ∃ i, a ∈ F i then none else G a
variable {B : Bs} {G H G' H' : Hp} {σ : L2.St} {Γ : List Sl} {F : Nat → List Addr}
theorem gPlus_in {i : Nat} {a : Addr} (m : a ∈ F i) : gPlus F G H a = H a := if_pos ⟨i, m⟩
theorem OkF.gPlus_ex (k : OkF B G σ H Γ F) : Ex G (gPlus F G H) := fun a o q => by
  unfold gPlus
  by_cases h : ∃ i, a ∈ F i
  · obtain ⟨i, m⟩ := h
    rw [(k.fr i a m).2.1] at q; cases q
  · rw [if_neg h]; exact q
theorem OkF.gPlus_h (k : OkF B G σ H Γ F) : Ex (gPlus F G H) H := fun a o q => by
  unfold gPlus at q
  by_cases h : ∃ i, a ∈ F i
  · rw [if_pos h] at q; exact q
  · rw [if_neg h] at q; exact k.st.gh a o q
theorem OkF.fz (k : OkF B G σ H Γ F) : Ok ⟨gPlus F G H, gPlus F G H, H⟩ (gPlus F G H) σ H (Γ.map Sl.fz) := by
  have ep := k.gPlus_ex
  refine ⟨fun _ => [], Ex.rfl' _, Stp.rfl' k.gPlus_h, by rw [List.length_map]; exact k.len, fun i s e => ?_, fun i a m => (by cases m), fun i j a _ m => (by cases m)⟩
  rw [List.getElem?_map] at e
  cases q : Γ[i]? with
  | none => rw [q] at e; cases e
  | some s' =>
    rw [q] at e
    have e' : s'.fz = s := Option.some.inj e
    subst e'
    have h := k.sl i _ q
    cases s' with
    | un => trivial
    | d x => obtain ⟨v, e, r⟩ := h; exact ⟨v, e, r.up ep⟩
    | ex a => exact h
    | own ds => obtain ⟨a, vs, e, m, hh, r⟩ := h; exact ⟨_, e, .lst (.inl ((gPlus_in m).trans hh)) (r.up ep)⟩
    | ownD kvs => obtain ⟨a, e, m, hh⟩ := h; exact ⟨_, e, .dct ((gPlus_in m).trans hh) rfl⟩
    | ow x => obtain ⟨v, g, e, r, nd, m⟩ := h; exact ⟨_, e, r.rp (exTup ep) _ _ _ fun a ha => gPlus_in (m a ha)⟩
theorem OkF.unfz (k : OkF B G σ H Γ F) (s : Stp (gPlus F G H) H G' H') : Stp G H (gMinus F G') H' := by
  refine ⟨fun a o q => ?_, s.h, fun a o q => ?_, fun a o q q' => ?_⟩
  · unfold gMinus
    by_cases h : ∃ i, a ∈ F i
    · obtain ⟨i, m⟩ := h
      rw [(k.fr i a m).2.1] at q; cases q
    · rw [if_neg h]
      exact s.g a o (k.gPlus_ex a o q)
  · unfold gMinus at q
    by_cases h : ∃ i, a ∈ F i
    · rw [if_pos h] at q; cases q
    · rw [if_neg h] at q; exact s.gh a o q
  · unfold gMinus
    by_cases h : ∃ i, a ∈ F i
    · exact if_pos h
    · rw [if_neg h]
      refine s.nw a o q ?_
      unfold gPlus
      rw [if_neg h]; exact q'
theorem OkF.tup (k : OkF B G σ H Γ F) (s : Stp (gPlus F G H) H G' H') : ∀ a xs, Rd G' a (.tup xs) → Rd (gMinus F G') a (.tup xs) := fun a xs r => by
  have no : ¬ ∃ i, a ∈ F i := fun ⟨i, m⟩ => by
    have hm := (k.fr i a m).2.2
    obtain ⟨o, ho⟩ := hm.some
    have h1 : G' a = some o := s.g a o ((gPlus_in m).trans ho)
    rcases r with r | ⟨o2, r⟩ <;> rw [h1] at r <;> cases r <;> rcases hm with ⟨_, hm⟩ | ⟨_, hm⟩ <;> rw [ho] at hm <;> cases hm
  have e : gMinus F G' a = G' a := if_neg no
  unfold Rd
  rw [e]; exact r
theorem gMinus_none {a : Addr} (h : G' a = none) : gMinus F G' a = none := by
  unfold gMinus
  by_cases q : ∃ i, a ∈ F i
  · exact if_pos q
  · rw [if_neg q]; exact h
end
/-- a scalar -/
def Sc : PyData → Bool
  | .none => true
  | .bool _ => true
  | .int _ => true
  | .str _ => true
  | _ => false
theorem Rp.sc {G G' : Hp} {v : V} {d : PyData} (h : Rp G v d) (s : Sc d = true) : Rp G' v d := by
  cases h with
  | non => exact .non
  | bl b => exact .bl b
  | int i => exact .int i
  | str x => exact .str x
  | lst _ _ => cases s
  | tup _ _ => cases s
  | dct _ _ => cases s
theorem noL_sc {d : PyData} (s : Sc d = true) : noL d = true := by
  cases d <;> first | rfl | cases s
theorem ev_fzL {te : TE} {Γ : List Sl} {d : PyData} (h : Ev te (Γ.map Sl.fz) d) (s : noL d = true) : Ev te Γ d := fun B G σ H ok Q q => by
  obtain ⟨F, k⟩ := ok
  exact h _ _ σ H k.fz Q fun v G' H' st r => q v _ H' (k.unfz st) (r.noL s (k.tup st))
theorem ev_fz {te : TE} {Γ : List Sl} {d : PyData} (h : Ev te (Γ.map Sl.fz) d) (s : Sc d = true) : Ev te Γ d := ev_fzL h (noL_sc s)
theorem evN_fz {te : TE} {Γ : List Sl} {ds : List PyData} (h : EvN te (Γ.map Sl.fz) ds) (s : noLs ds = true) : EvN te Γ ds := fun B G σ H ok Q q => by
  obtain ⟨F, k⟩ := ok
  exact h _ _ σ H k.fz Q fun a vs G' H' st h0 hg hh r => q a vs _ H' (k.unfz st) h0 (gMinus_none hg) hh (r.noL s (k.tup st))
theorem et_fz {tt : TT} {Γ : List Sl} {b : Bool} (h : EvT tt (Γ.map Sl.fz) b) : EvT tt Γ b := fun B G σ H ok Q q => by
  obtain ⟨F, k⟩ := ok
  exact h _ _ σ H k.fz Q fun G' H' st => q _ H' (k.unfz st)

/-! ### what one may make one's own: new, or moved out of the slots S -/
def EvM (te : TE) (Γ : List Sl) (S : List Nat) (d : PyData) : Prop := ∀ (B : Bs) (G : Hp) (σ : L2.St) (H : Hp) (F : Nat → List Addr), OkF B G σ H Γ F → ∀ Q : VK,
  (∀ v f G' H', Stp G H G' H' → Ro G' H' v d f → f.Nodup → (∀ a ∈ f, G' a = none ∧ (H a = none ∨ ∃ i ∈ S, a ∈ F i)) → Q v H') → te σ H Q
def EvMs (ta : TA) (Γ : List Sl) (S : List Nat) (ds : List PyData) : Prop := ∀ (B : Bs) (G : Hp) (σ : L2.St) (H : Hp) (F : Nat → List Addr), OkF B G σ H Γ F → ∀ Q : List V → Hp → Prop,
  (∀ vs f G' H', Stp G H G' H' → Ros G' H' vs ds f → f.Nodup → (∀ a ∈ f, G' a = none ∧ (H a = none ∨ ∃ i ∈ S, a ∈ F i)) → Q vs H') → ta σ H Q
section
variable {Γ : List Sl} {ta te : TE} {tr : TA} {d : PyData} {ds : List PyData} {S S1 S2 : List Nat} {i : Nat}
theorem em_d (h : Ev te Γ d) (s : noL d = true) : EvM te Γ [] d := fun B G σ H F k Q q => h B G σ H ⟨F, k⟩ Q fun v G' H' st r => q v [] G' H' st (r.ro _ _ s) List.nodup_nil fun _ m => by cases m
theorem em_N (h : EvN te Γ ds) (s : noLs ds = true) : EvM te Γ [] (.list ds) := fun B G σ H F k Q q => h B G σ H ⟨F, k⟩ Q fun a vs G' H' st h0 hg hh r =>
  q _ [a] G' H' st (.lst hh (r.ros _ _ s)) (List.nodup_cons.mpr ⟨fun m => (by cases m), List.nodup_nil⟩) fun b m => by
    rcases List.mem_cons.mp m with rfl | m
    · exact ⟨hg, .inl h0⟩
    · cases m
theorem em_var (e : Γ[i]? = some (.ow d)) : EvM (tVar i) Γ [i] d := fun B G σ H F k Q q => by
  obtain ⟨v, g, e1, r, nd, m⟩ := k.sl i _ e
  exact ⟨v, e1, q v g G H (Stp.rfl' k.st.gh) r nd fun a ha => ⟨(k.fr i a (m a ha)).2.1, .inr ⟨i, List.mem_cons_self, m a ha⟩⟩⟩
theorem em_own (e : Γ[i]? = some (.own ds)) (s : noLs ds = true) : EvM (tVar i) Γ [i] (.list ds) := fun B G σ H F k Q q => by
  obtain ⟨a, vs, e1, m, hh, r⟩ := k.sl i _ e
  refine ⟨.ref a, e1, q _ [a] G H (Stp.rfl' k.st.gh) (.lst hh (r.ros _ _ s)) (List.nodup_cons.mpr ⟨fun m => (by cases m), List.nodup_nil⟩) fun b mb => ?_⟩
  rcases List.mem_cons.mp mb with rfl | mb
  · exact ⟨(k.fr i _ m).2.1, .inr ⟨i, List.mem_cons_self, m⟩⟩
  · cases mb
theorem em_ownD {kvs : List (Str × Int)} (e : Γ[i]? = some (.ownD kvs)) : EvM (tVar i) Γ [i] (.dict (kvs.map kvD)) := fun B G σ H F k Q q => by
  obtain ⟨a, e1, m, hh⟩ := k.sl i _ e
  refine ⟨.ref a, e1, q _ [a] G H (Stp.rfl' k.st.gh) (.dct hh rfl) (List.nodup_cons.mpr ⟨fun m => (by cases m), List.nodup_nil⟩) fun b mb => ?_⟩
  rcases List.mem_cons.mp mb with rfl | mb
  · exact ⟨(k.fr i _ m).2.1, .inr ⟨i, List.mem_cons_self, m⟩⟩
  · cases mb
theorem ems_nil : EvMs tNil Γ [] [] := fun B G σ H F k Q q => q [] [] G H (Stp.rfl' k.st.gh) .nil List.nodup_nil fun _ m => by cases m
theorem ems_cons (h : EvM ta Γ S1 d) (hr : EvMs tr Γ S2 ds) (hd : ∀ i ∈ S1, i ∉ S2) : EvMs (tCons ta tr) Γ (S1 ++ S2) (d :: ds) := fun B G σ H F k Q q =>
  h B G σ H F k _ fun v f G1 H1 s1 r1 n1 m1 => hr B G1 σ H1 F (k.step s1) _ fun vs g G2 H2 s2 r2 n2 m2 => by
    have mt1 := r1.mt _ _ _
    have key : ∀ a ∈ f, H2 a = H1 a := fun a ha => (mt1 a ha).ex s2.h
    refine q (v :: vs) (f ++ g) G2 H2 (s1.tr s2) (.cons (r1.fr (exTup s2.g) _ _ _ key) r2) ?_ fun a ha => ?_
    · refine List.nodup_append.mpr ⟨n1, n2, fun a ha b hb e => ?_⟩
      subst e
      rcases (m2 a hb).2 with z | ⟨j, hj, mj⟩
      · obtain ⟨o, ho⟩ := (mt1 a ha).some
        rw [z] at ho; cases ho
      · rcases (m1 a ha).2 with z | ⟨l, hl, ml⟩
        · obtain ⟨o, ho⟩ := (k.fr j a mj).2.2.some
          rw [z] at ho; cases ho
        · by_cases e : l = j
          · subst e; exact hd l hl hj
          · exact k.ap l j a e ml mj
    · rcases List.mem_append.mp ha with ha | ha
      · obtain ⟨o, ho⟩ := (mt1 a ha).some
        refine ⟨s2.nw a o ho (m1 a ha).1, ?_⟩
        rcases (m1 a ha).2 with z | ⟨l, hl, ml⟩
        · exact .inl z
        · exact .inr ⟨l, List.mem_append_left _ hl, ml⟩
      · refine ⟨(m2 a ha).1, ?_⟩
        rcases (m2 a ha).2 with z | ⟨l, hl, ml⟩
        · exact .inl (s1.h.no z)
        · exact .inr ⟨l, List.mem_append_right _ hl, ml⟩
theorem em_tup {t : TA} (h : EvMs t Γ S ds) (hl : ds.length ≤ sizeLine) : EvM (tTup t) Γ S (.tuple ds) := fun B G σ H F k Q q =>
  h B G σ H F k _ fun vs f G1 H1 s1 r1 n1 m1 => ⟨by rw [(r1.len _ _ _)]; exact hl, fun p hp => by
    have mt1 := r1.mt _ _ _
    have np : ∀ a ∈ f, a ≠ p := fun a ha z => by
      subst z
      obtain ⟨o, ho⟩ := (mt1 a ha).some
      rw [hp] at ho; cases ho
    exact q (.ref p) f _ _ (s1.tr (Stp.new s1.gh hp)) (.tup (.inl upd_same) (r1.fr (exTup (Ex.new (s1.gh.no hp))) _ _ _ fun a ha => upd_ne (np a ha))) n1 fun a ha => ⟨by rw [upd_ne (np a ha)]; exact (m1 a ha).1, (m1 a ha).2⟩⟩
theorem em_lst {t : TA} (h : EvMs t Γ S ds) (hl : ds.length ≤ sizeLine) : EvM (tLst t) Γ S (.list ds) := fun B G σ H F k Q q =>
  h B G σ H F k _ fun vs f G1 H1 s1 r1 n1 m1 => ⟨by rw [(r1.len _ _ _)]; exact hl, fun p hp => by
    have mt1 := r1.mt _ _ _
    have np : ∀ a ∈ f, a ≠ p := fun a ha z => by
      subst z
      obtain ⟨o, ho⟩ := (mt1 a ha).some
      rw [hp] at ho; cases ho
    refine q (.ref p) (p :: f) G1 _ (s1.tr (Stp.newH s1.gh hp)) (.lst upd_same (r1.fr (fun _ _ z => z) _ _ _ fun a ha => upd_ne (np a ha))) (List.nodup_cons.mpr ⟨fun m => np p m rfl, n1⟩) fun a ha => ?_
    rcases List.mem_cons.mp ha with rfl | ha
    · exact ⟨s1.gh.no hp, .inl (s1.h.no hp)⟩
    · exact m1 a ha⟩
/-- what is new is given away: mere data -/
theorem EvM.ev (h : EvM te Γ [] d) : Ev te Γ d := fun B G σ H ok Q q => by
  obtain ⟨F, k⟩ := ok
  refine h B G σ H F k Q fun v f G1 H1 s1 r1 n1 m1 => ?_
  have new : ∀ a ∈ f, H a = none ∧ G1 a = none := fun a ha => by
    rcases (m1 a ha).2 with z | ⟨l, hl, _⟩
    · exact ⟨z, (m1 a ha).1⟩
    · cases hl
  have st := s1.giveL f (fun a ha => new a ha)
  exact q v _ H1 st.1 (r1.rp st.2.1 _ _ _ st.2.2)
theorem em_fz (h : EvM te (Γ.map Sl.fz) [] d) : EvM te Γ [] d := fun B G σ H F k Q q => by
  obtain ⟨F2, k2⟩ := k.fz
  refine h _ _ σ H F2 k2 Q fun v f G1 H1 s1 r1 n1 m1 => q v f _ H1 (k.unfz s1) (r1.fr (k.tup s1) _ _ _ fun _ _ => rfl) n1 fun a ha => ?_
  rcases (m1 a ha).2 with z | ⟨l, hl, _⟩
  · exact ⟨gMinus_none (m1 a ha).1, .inl z⟩
  · cases hl
end

/-! ### what is walked -/
structure ItD (J : It) (G : Hp) (ds : List PyData) : Prop where
  stop : ∀ H, Ex G H → J.stop ds.length H
  go : ∀ i H, i < ds.length → Ex G H → J.go i H
  yld : ∀ (i : Nat) (H : Hp) (x : V) (H' : Hp) (d : PyData), ds[i]? = some d → Ex G H → J.yld i H x H' → H' = H ∧ Rp G x d
def EvI (wi : TI) (Γ : List Sl) (ds : List PyData) : Prop := ∀ (B : Bs) (G : Hp) (σ : L2.St) (H : Hp), Ok B G σ H Γ → ∀ R : It → Hp → Prop, (∀ J G' H', Stp G H G' H' → ItD J G' ds → R J H') → wi σ H R
section
variable {K : PySem.W.Frag} {Γ : List Sl} {ta tb te : TE} {d x y z : PyData} {ds xs ys : List PyData}
theorem ei_list (h : Ev te Γ (.list ds)) : EvI (iList K te) Γ ds := fun B G σ H ok R q => h B G σ H ok _ fun v G1 H1 s1 r1 => by
  cases r1 with
  | @lst a vs _ hd hr =>
    refine ⟨a, rfl, ⟨vs, rd_sql (s1.gh.rd hd)⟩, q _ G1 H1 s1 ⟨fun H e => ⟨vs, rd_sql (e.rd hd), by rw [hr.length]; exact Nat.le_refl _⟩, fun i H hi e => ?_, fun i H x H' d hd' e y => ?_⟩⟩
    · have hi' : i < vs.length := by rw [hr.length]; exact hi
      exact ⟨vs, vs[i], rd_sql (e.rd hd), List.getElem?_eq_getElem hi'⟩
    · obtain ⟨e1, y⟩ := y
      obtain ⟨v, h1, h2⟩ := hr.get hd'
      have h3 := y vs (rd_sql (e.rd hd))
      rw [h1] at h3
      cases h3
      exact ⟨e1, h2⟩
theorem ei_tup (h : Ev te Γ (.tuple ds)) : EvI (iTup K te) Γ ds := fun B G σ H ok R q => h B G σ H ok _ fun v G1 H1 s1 r1 => by
  cases r1 with
  | @tup a vs _ hd hr =>
    refine ⟨a, rfl, ⟨vs, rd_sqt (s1.gh.rd hd)⟩, q _ G1 H1 s1 ⟨fun H e => ⟨vs, rd_sqt (e.rd hd), by rw [hr.length]; exact Nat.le_refl _⟩, fun i H hi e => ?_, fun i H x H' d hd' e y => ?_⟩⟩
    · have hi' : i < vs.length := by rw [hr.length]; exact hi
      exact ⟨vs, vs[i], rd_sqt (e.rd hd), List.getElem?_eq_getElem hi'⟩
    · obtain ⟨e1, y⟩ := y
      obtain ⟨v, h1, h2⟩ := hr.get hd'
      have h3 := y vs (rd_sqt (e.rd hd))
      rw [h1] at h3
      cases h3
      exact ⟨e1, h2⟩
/-- lo, lo + 1, .. -/
def rngD (lo : Int) (n : Nat) : List PyData := (List.range n).map fun k : Nat => PyData.int (lo + k)
theorem rngD_length (lo : Int) (n : Nat) : (rngD lo n).length = n := by simp [rngD]
theorem rngD_get (lo : Int) (n i : Nat) (h : i < n) : (rngD lo n)[i]? = some (.int (lo + i)) := by
  unfold rngD
  rw [List.getElem?_map, List.getElem?_range h]
  rfl
theorem itd_rng {G : Hp} {lo : Int} {n : Nat} : ItD (Itr lo n) G (rngD lo n) := by
  refine ⟨fun H _ => ?_, fun i H hi _ => ?_, fun i H x H' d hd _ y => ?_⟩
  · show n ≤ _
    rw [rngD_length]; exact Nat.le_refl _
  · show i < n
    rw [rngD_length] at hi; exact hi
  · obtain ⟨e1, e2⟩ := y
    have hi : i < n := by
      have := (List.getElem?_eq_some_iff.mp hd).1
      rw [rngD_length] at this; exact this
    rw [rngD_get lo n i hi] at hd
    cases hd
    subst e2
    exact ⟨e1, .int _⟩
theorem ei_rng1 {n : Int} (h : Ev ta Γ (.int n)) (h1 : -(2 ^ 62) ≤ n) (h2 : n < 2 ^ 62) : EvI (iRng1 (tCons ta tNil)) Γ (rngD 0 n.toNat) := fun B G σ H ok R q => h B G σ H ok _ fun v G1 H1 s1 r1 => by
  cases r1
  exact ⟨n, rfl, h1, h2, q _ G1 H1 s1 itd_rng⟩
theorem ei_rng2 {m n : Int} (ha : Ev ta Γ (.int m)) (hb : Ev tb Γ (.int n)) (h1 : -(2 ^ 62) ≤ m) (h2 : m < 2 ^ 62) (h3 : -(2 ^ 62) ≤ n) (h4 : n < 2 ^ 62) : EvI (iRng2 (tCons ta (tCons tb tNil))) Γ (rngD m (n - m).toNat) := fun B G σ H ok R q =>
  ha B G σ H ok _ fun v G1 H1 s1 r1 => hb B G1 σ H1 (ok.step s1) _ fun u G2 H2 s2 r2 => by
  cases r1
  cases r2
  exact ⟨m, n, rfl, ⟨h1, h2, h3, h4⟩, q _ G2 H2 (s1.tr s2) itd_rng⟩
end

/-! ### comprehensions -/
section
variable {K : PySem.W.Frag} {Γ : List Sl} {te : TE} {tt : TT} {wi : TI} {ds : List PyData} {j : Nat}
/-- the wiped frame with the item in -/
theorem wipe_set (σ : L2.St) (j : Nat) (v : V) : (wipe σ [j]).set j (some v) = σ.set j (some v) := by
  show (σ.set j none).set j (some v) = _
  rw [List.set_set]
theorem wipe_after (σ : L2.St) (j : Nat) (v : V) : wipe ((wipe σ [j]).set j (some v)) [j] = wipe σ [j] := by
  show ((σ.set j none).set j (some v)).set j none = σ.set j none
  rw [List.set_set, List.set_set]
theorem evN_lc {α : Type} {js : List Nat} (enc : α → PyData) (xs : List α) (p : α → Bool) (f : α → PyData) (hj : js = [j]) (hi : EvI wi Γ (xs.map enc)) (hz : xs.length ≤ sizeLine) (ht : ∀ x ∈ xs, EvT tt (Γ.set j (.d (enc x))) (p x)) (he : ∀ x ∈ xs, p x = true → Ev te (Γ.set j (.d (enc x))) (f x)) :
    EvN (tLc wi (gName j) tt te js) Γ ((xs.filter p).map f) := fun B G σ H ok Q q => hi B G σ H ok _ fun J G1 H1 s1 it => by
  subst hj
  intro D hD
  have hGD : G1 D = none := s1.gh.no hD
  have hlen : (xs.map enc).length = xs.length := List.length_map _
  refine ⟨fun i m H2 => m = xs.length - i ∧ i ≤ xs.length ∧ ∃ G2 acc, Stp G1 H1 G2 H2 ∧ G2 D = none ∧ H2 D = some (.lst acc) ∧ Rps G2 acc (((xs.take i).filter p).map f), ⟨xs.length, by simp, Nat.zero_le _, G1, [], Stp.newH s1.gh hD, hGD, upd_same, .nil⟩, ?_⟩
  rintro i m H2 ⟨rfl, hil, G2, acc, s2, hg2, hh2, ra⟩
  by_cases hlt : i < xs.length
  · have hget : xs[i]? = some xs[i] := List.getElem?_eq_getElem hlt
    have hget' : (xs.map enc)[i]? = some (enc xs[i]) := by rw [List.getElem?_map, hget]; rfl
    have hmem : xs[i] ∈ xs := List.getElem_mem hlt
    have htk : xs.take (i + 1) = xs.take i ++ [xs[i]] := by rw [List.take_add_one, hget]; rfl
    refine .inr ⟨it.go i H2 (by rw [hlen]; exact hlt) (s2.g.tr s2.gh), fun H' => ∃ G' acc', Stp G1 H1 G' H' ∧ G' D = none ∧ H' D = some (.lst acc') ∧ Rps G' acc' (((xs.take (i + 1)).filter p).map f),
      fun H' h' => ⟨xs.length - (i + 1), by omega, rfl, hlt, h'⟩, fun x H' hy => ?_⟩
    obtain ⟨rfl, rx⟩ := it.yld i H2 x H' _ hget' (s2.g.tr s2.gh) hy
    refine ⟨wipe_after σ j x, ?_⟩
    rw [wipe_set]
    have ok2 : Ok B G2 (σ.set j (some x)) H' (Γ.set j (.d (enc xs[i]))) := ((ok.step s1).step s2).setD j (rx.up s2.g)
    refine ht _ hmem B G2 _ H' ok2 _ fun G3 H3 s3 => ?_
    have hg3 : G3 D = none := s3.nw D _ hh2 hg2
    have hh3 : H3 D = some (.lst acc) := s3.h D _ hh2
    cases hp : p xs[i] with
    | false =>
      rw [if_neg Bool.false_ne_true]
      refine ⟨G3, acc, s2.tr s3, hg3, hh3, ?_⟩
      rw [htk, List.filter_append, List.filter_cons_of_neg (by rw [hp]; exact Bool.false_ne_true), List.filter_nil, List.append_nil]
      exact ra.up s3.g
    | true =>
      rw [if_pos rfl]
      refine he _ hmem hp B G3 _ H3 (ok2.step s3) _ fun v G4 H4 s4 rv => ?_
      have hh4 : H4 D = some (.lst acc) := s4.h D _ hh3
      have hg4 : G4 D = none := s4.nw D _ hh3 hg3
      have hal : acc.length < sizeLine := by
        have h1 := ra.length
        rw [List.length_map] at h1
        have h2 := List.length_filter_le p (xs.take i)
        rw [List.length_take] at h2
        omega
      refine ⟨acc, hh4, hal, G4, acc ++ [v], ?_, hg4, upd_same, ?_⟩
      · have st := (s2.tr s3).tr s4
        refine ⟨st.g, fun b o e => ?_, fun b o e => ?_, st.nw⟩
        · rw [upd_ne (ne_of_none e hD)]
          exact st.h b o e
        · rw [upd_ne (fun z => by subst z; rw [hg4] at e; cases e)]
          exact st.gh b o e
      · rw [htk, List.filter_append, List.map_append, List.filter_cons_of_pos hp, List.filter_nil]
        exact ((ra.up s3.g).up s4.g).app (.cons rv .nil)
  · have e : i = xs.length := by omega
    subst e
    rw [List.take_length] at ra
    refine .inl ⟨?_, q D acc G2 H2 (s1.tr s2) (s1.h.no hD) hg2 hh2 ra⟩
    have h := it.stop H2 (s2.g.tr s2.gh)
    rw [hlen] at h
    exact h
/-- without a test -/
theorem evN_lcm {α : Type} {js : List Nat} (enc : α → PyData) (xs : List α) (f : α → PyData) (hj : js = [j]) (hi : EvI wi Γ (xs.map enc)) (hz : xs.length ≤ sizeLine) (he : ∀ x ∈ xs, Ev te (Γ.set j (.d (enc x))) (f x)) : EvN (tLc wi (gName j) tYes te js) Γ (xs.map f) := by
  have h := evN_lc (tt := tYes) (te := te) (j := j) enc xs (fun _ => true) f hj hi hz (fun _ _ => et_yes) fun x hx _ => he x hx
  rw [List.filter_eq_self.mpr fun _ _ => rfl] at h
  exact h
end
end Ck

namespace Ck
open PySem PySem.Spec L2

/-! ### statements -/
def At (B : Bs) (Γ : List Sl) (k : L2.St → Hp → Prop) : Prop := ∀ (G : Hp) (σ : L2.St) (H : Hp), Ok B G σ H Γ → k σ H
/-- an owned list or dict is changed -/
theorem Ok.mut {B : Bs} {G : Hp} {σ : L2.St} {H : Hp} {Γ : List Sl} (k : Ok B G σ H Γ) {i : Nat} {a : Addr} {o : HO} {s' : Sl} (ho : ∀ h : Hp, h a = some o → Mt h a) (hm : ∀ f, OkF B G σ H Γ f → a ∈ f i) (hs : ∀ f : List Addr, a ∈ f → SlOk G (upd H a o) σ[i]? f s') : Ok B G σ (upd H a o) (Γ.set i s') := by
  obtain ⟨F, k⟩ := k
  have m := hm F k
  exact ⟨F, k.mut (fun b hb => upd_ne fun z => hb (z ▸ m)) (fun b hb => by
    by_cases e : b = a
    · subst e; exact ho _ upd_same
    · exact (k.fr i b hb).2.2.of (upd_ne e)) (hs _ m)⟩
theorem OkF.inOwn {B : Bs} {G : Hp} {σ : L2.St} {H : Hp} {Γ : List Sl} {F : Nat → List Addr} (k : OkF B G σ H Γ F) {i : Nat} {ds : List PyData} {a : Addr} (e : Γ[i]? = some (.own ds)) (e1 : σ[i]? = some (some (.ref a))) : a ∈ F i := by
  obtain ⟨b, vs, e2, m, _⟩ := k.sl i _ e
  rw [e1] at e2
  cases e2
  exact m
theorem OkF.inOwnD {B : Bs} {G : Hp} {σ : L2.St} {H : Hp} {Γ : List Sl} {F : Nat → List Addr} (k : OkF B G σ H Γ F) {i : Nat} {kvs : List (Str × Int)} {a : Addr} (e : Γ[i]? = some (.ownD kvs)) (e1 : σ[i]? = some (some (.ref a))) : a ∈ F i := by
  obtain ⟨b, e2, m, _⟩ := k.sl i _ e
  rw [e1] at e2
  cases e2
  exact m
section
variable {K : PySem.W.Frag} {B : Bs} {Γ : List Sl} {nx bk ct : L2.St → Hp → Prop} {rt : VK} {t u : TS} {te ti ta : TE} {tt : TT} {d : PyData} {ds : List PyData} {i j : Nat} {b : Bool} {k : L2.St → Hp → Prop}
theorem at_seq (h : At B Γ (t ⟨u ⟨nx, rt, bk, ct⟩, rt, bk, ct⟩)) : At B Γ (tSeq t u ⟨nx, rt, bk, ct⟩) := h
theorem at_next (h : At B Γ nx) : At B Γ (tNext ⟨nx, rt, bk, ct⟩) := h
theorem at_brk (h : At B Γ bk) : At B Γ (tBreak ⟨nx, rt, bk, ct⟩) := h
theorem at_cont (h : At B Γ ct) : At B Γ (tCont ⟨nx, rt, bk, ct⟩) := h
theorem at_set (h : Ev te Γ d) (q : At B (Γ.set i (.d d)) nx) : At B Γ (tAsg te (gName i) ⟨nx, rt, bk, ct⟩) := fun G σ H ok =>
  h B G σ H ok _ fun v G' H' s r => q G' _ H' ((ok.step s).setD i r)
theorem at_setN (h : EvN te Γ ds) (q : At B (Γ.set i (.own ds)) nx) : At B Γ (tAsg te (gName i) ⟨nx, rt, bk, ct⟩) := fun G σ H ok =>
  h B G σ H ok _ fun a vs G' H' s h0 hg hh r => q G' _ H' (ok.setF s i (f := [a]) ⟨a, vs, rfl, List.mem_cons_self, hh, r⟩ fun b m => by
    rcases List.mem_cons.mp m with rfl | m
    · exact ⟨h0, hg, .inl ⟨_, hh⟩⟩
    · cases m)
theorem at_setO (h : EvM te Γ [] d) (q : At B (Γ.set i (.ow d)) nx) : At B Γ (tAsg te (gName i) ⟨nx, rt, bk, ct⟩) := fun G σ H ok => by
  obtain ⟨F, k⟩ := ok
  exact h B G σ H F k _ fun v f G' H' s r nd m => q G' _ H' (Ok.setF ⟨F, k⟩ s i (f := f) ⟨v, f, rfl, r, nd, fun a ha => ha⟩ fun b mb => by
    refine ⟨?_, (m b mb).1, r.mt _ _ _ b mb⟩
    rcases (m b mb).2 with z | ⟨l, hl, _⟩
    · exact z
    · cases hl)
theorem at_retO {S : List Nat} (h : EvM te Γ S d) (q : ∀ v f G H, Stp B.g0 B.h0 G H → Ro G H v d f → f.Nodup → (∀ a ∈ f, B.h0 a = none ∧ G a = none) → rt v H) : At B Γ (tRet te ⟨nx, rt, bk, ct⟩) := fun G σ H ok => by
  obtain ⟨F, k⟩ := ok
  refine h B G σ H F k _ fun v f G' H' s r nd m => q v f G' H' (k.st.tr s) r nd fun a ha => ⟨?_, (m a ha).1⟩
  rcases (m a ha).2 with z | ⟨l, _, ml⟩
  · exact k.st.h.no z
  · exact (k.fr l a ml).1
theorem at_drop (h : Ev te Γ d) (q : At B Γ nx) : At B Γ (tDrop te ⟨nx, rt, bk, ct⟩) := fun G σ H ok => h B G σ H ok _ fun v G' H' s r => q G' _ H' (ok.step s)
theorem at_ret (h : Ev te Γ d) (q : ∀ v G H, Stp B.g0 B.h0 G H → Rp G v d → rt v H) : At B Γ (tRet te ⟨nx, rt, bk, ct⟩) := fun G σ H ok => h B G σ H ok _ fun v G' H' s r => q v G' H' (ok.st.tr s) r
theorem at_retN (q : ∀ G H, Stp B.g0 B.h0 G H → rt .non H) : At B Γ (tRetN ⟨nx, rt, bk, ct⟩) := fun G σ H ok => q G H ok.st
theorem at_if (h : EvT tt Γ b) (h1 : b = true → At B Γ (t ⟨nx, rt, bk, ct⟩)) (h2 : b = false → At B Γ (u ⟨nx, rt, bk, ct⟩)) : At B Γ (tIfS tt t u ⟨nx, rt, bk, ct⟩) := fun G σ H ok => h B G σ H ok _ fun G' H' s => by
  cases b with
  | true => rw [if_pos rfl]; exact h1 rfl G' σ H' (ok.step s)
  | false => rw [if_neg Bool.false_ne_true]; exact h2 rfl G' σ H' (ok.step s)
theorem at_freeze (e : Γ[i]? = some (.own ds)) (q : At B (Γ.set i (.d (.list ds))) k) : At B Γ k := fun G σ H ok => by
  obtain ⟨G', _, ok'⟩ := ok.freeze e
  exact q G' σ H ok'
theorem at_weak {Γ' : List Sl} (hl : Γ'.length = Γ.length) (h : ∀ (i : Nat) (s : Sl), Γ'[i]? = some s → s = .un ∨ Γ[i]? = some s) (q : At B Γ' k) : At B Γ k := fun G σ H ok => q G σ H (ok.weak hl h)
theorem at_append (e : Γ[i]? = some (.own ds)) (h : Ev te Γ d) (hz : ds.length < sizeLine) (q : At B (Γ.set i (.own (ds ++ [d]))) nx) : At B Γ (tDrop (tBM K "list" rAppend (tVar i) (tCons te tNil)) ⟨nx, rt, bk, ct⟩) := fun G σ H ok => by
  obtain ⟨a, vs, e1, h0, hg, hh, r⟩ := ok.own e
  refine ⟨.ref a, e1, .inl ⟨rfl, _, .inl (.inl hh)⟩, ?_⟩
  refine h B G σ H ok _ fun v G' H' s rv => ?_
  have ok' := ok.step s
  have hh' := s.h _ _ hh
  have hg' := s.nw _ _ hh hg
  refine ⟨a, vs, v, rfl, rfl, hh', by rw [r.length]; exact hz, ?_⟩
  exact q G' σ _ (ok'.mut (fun _ z => .inl ⟨_, z⟩) (fun F k => k.inOwn e e1) fun f m => ⟨a, vs ++ [v], e1, m, upd_same, (r.up s.g).app (.cons rv .nil)⟩)
theorem at_setitem {n : Int} (e : Γ[i]? = some (.own ds)) (hv : Ev te Γ d) (hi : Ev ti Γ (.int n)) (hx : ixN ds.length n = some j) (q : At B (Γ.set i (.own (ds.set j d))) nx) : At B Γ (tAsg te (gSub (tVar i) ti rSetL) ⟨nx, rt, bk, ct⟩) := fun G σ H ok => by
  obtain ⟨a, vs, e1, h0, hg, hh, r⟩ := ok.own e
  refine hv B G σ H ok _ fun v G1 H1 s1 rv => ⟨.ref a, e1, ?_⟩
  refine hi B G1 σ H1 (ok.step s1) _ fun w G2 H2 s2 rw' => ?_
  cases rw'
  have s := s1.tr s2
  have hh' := s.h _ _ hh
  have hg' := s.nw _ _ hh hg
  refine ⟨a, vs, n, j, rfl, rfl, hh', by rw [r.length]; exact hx, ?_⟩
  exact q G2 σ _ ((ok.step s).mut (fun _ z => .inl ⟨_, z⟩) (fun F k => k.inOwn e e1) fun f m => ⟨a, vs.set j v, e1, m, upd_same, (r.up s.g).set (rv.up s2.g) j⟩)
/-- an item of an owned list -/
theorem ev_ixOwn {n : Int} (e : Γ[i]? = some (.own ds)) (hi : Ev ti Γ (.int n)) (hx : atI ds n = some d) : Ev (tOp (rIx K) (tVar i) ti) Γ d := fun B G σ H ok Q q => by
  obtain ⟨a, vs, e1, h0, hg, hh, r⟩ := ok.own e
  refine ⟨.ref a, e1, ?_⟩
  refine hi B G σ H ok _ fun w G2 H2 s2 rw' => ?_
  cases rw'
  unfold atI at hx
  obtain ⟨j, hj, hd⟩ := Option.bind_eq_some_iff.mp hx
  obtain ⟨v, hv, rv⟩ := r.get hd
  refine .inl ⟨a, vs, n, v, rfl, rfl, .inl (.inl (s2.h _ _ hh)), ?_, q v G2 H2 s2 (rv.up s2.g)⟩
  unfold atI
  rw [r.length, hj]
  exact hv
end
/-- less is known -/
inductive Wk : List Sl → List Sl → Prop
  | nil : Wk [] []
  | un {s : Sl} {a b : List Sl} : Wk a b → Wk (.un :: a) (s :: b)
  | same {s : Sl} {a b : List Sl} : Wk a b → Wk (s :: a) (s :: b)
theorem Wk.len {a b : List Sl} (h : Wk a b) : a.length = b.length := by
  induction h with
  | nil => rfl
  | un _ ih => exact congrArg (· + 1) ih
  | same _ ih => exact congrArg (· + 1) ih
theorem Wk.get {a b : List Sl} (h : Wk a b) : ∀ (i : Nat) (s : Sl), a[i]? = some s → s = .un ∨ b[i]? = some s := by
  induction h with
  | nil => intro i s e; simp at e
  | un _ ih =>
    intro i s e
    cases i with
    | zero => simp at e; exact .inl e.symm
    | succ i => simpa using ih i s (by simpa using e)
  | same _ ih =>
    intro i s e
    cases i with
    | zero => simp at e; subst e; exact .inr (by simp)
    | succ i => simpa using ih i s (by simpa using e)
theorem at_wk {B : Bs} {Γ Γ' : List Sl} {k : L2.St → Hp → Prop} (q : At B Γ' k) (h : Wk Γ' Γ) : At B Γ k := at_weak h.len h.get q
section
variable {K : PySem.W.Frag} {B : Bs} {Γ : List Sl} {nx bk ct : L2.St → Hp → Prop} {rt : VK} {t u : TS} {te ti ta : TE} {tt : TT} {d : PyData} {ds : List PyData} {i j : Nat} {b : Bool} {k : L2.St → Hp → Prop}
/-- the slots with another one at a place, written out -/
inductive SetAt : List Sl → Nat → Sl → List Sl → Prop
  | zero {a s : Sl} {l : List Sl} : SetAt (a :: l) 0 s (s :: l)
  | succ {a s : Sl} {l l' : List Sl} {i : Nat} : SetAt l i s l' → SetAt (a :: l) (i + 1) s (a :: l')
theorem SetAt.eq {l l' : List Sl} {i : Nat} {s : Sl} (h : SetAt l i s l') : l.set i s = l' := by
  induction h with
  | zero => rfl
  | succ _ ih => rw [List.set_cons_succ, ih]
inductive Nf : List Sl → List Sl → Prop
  | nil : Nf [] []
  | cons {a : Sl} {l l' : List Sl} : Nf l l' → Nf (a :: l) (a :: l')
theorem Nf.eq {l l' : List Sl} (h : Nf l l') : l = l' := by
  induction h with
  | nil => rfl
  | cons _ ih => rw [ih]
theorem at_nf {Γ' : List Sl} (q : At B Γ' k) (h : Nf Γ Γ') : At B Γ k := h.eq ▸ q
theorem at_setA {Γ' : List Sl} (h : Ev te Γ d) (hs : SetAt Γ i (.d d) Γ') (q : At B Γ' nx) : At B Γ (tAsg te (gName i) ⟨nx, rt, bk, ct⟩) := at_set h (hs.eq ▸ q)
theorem at_setNA {Γ' : List Sl} (h : EvN te Γ ds) (hs : SetAt Γ i (.own ds) Γ') (q : At B Γ' nx) : At B Γ (tAsg te (gName i) ⟨nx, rt, bk, ct⟩) := at_setN h (hs.eq ▸ q)
theorem at_appendA {Γ' : List Sl} (e : Γ[i]? = some (.own ds)) (h : Ev te Γ d) (hz : ds.length < sizeLine) (hs : SetAt Γ i (.own (ds ++ [d])) Γ') (q : At B Γ' nx) : At B Γ (tDrop (tBM K "list" rAppend (tVar i) (tCons te tNil)) ⟨nx, rt, bk, ct⟩) := at_append e h hz (hs.eq ▸ q)
theorem at_setitemA {Γ' : List Sl} {n : Int} (e : Γ[i]? = some (.own ds)) (hv : Ev te Γ d) (hi : Ev ti Γ (.int n)) (hx : ixN ds.length n = some j) (hs : SetAt Γ i (.own (ds.set j d)) Γ') (q : At B Γ' nx) : At B Γ (tAsg te (gSub (tVar i) ti rSetL) ⟨nx, rt, bk, ct⟩) := at_setitem e hv hi hx (hs.eq ▸ q)
theorem at_freezeA {Γ' : List Sl} (e : Γ[i]? = some (.own ds)) (hs : SetAt Γ i (.d (.list ds)) Γ') (q : At B Γ' k) : At B Γ k := at_freeze e (hs.eq ▸ q)
/-- if c: x = e, else as it was -/
theorem at_ifSet {Γ' : List Sl} {d1 d0 : PyData} (h : EvT tt Γ b) (he : b = true → Ev te Γ d1) (h0 : Γ[i]? = some (.d d0)) (hs : SetAt Γ i (.d (if b then d1 else d0)) Γ') (q : At B Γ' nx) : At B Γ (tIfS tt (tAsg te (gName i)) tNext ⟨nx, rt, bk, ct⟩) := by
  rw [← hs.eq] at q
  refine at_if h (fun hb => at_set (he hb) ?_) (fun hb => at_next ?_)
  · rw [hb, if_pos rfl] at q; exact q
  · rw [hb, if_neg Bool.false_ne_true] at q
    have e : Γ.set i (.d d0) = Γ := by
      obtain ⟨hl, hv⟩ := List.getElem?_eq_some_iff.mp h0
      rw [← hv]; exact List.set_getElem_self hl
    rw [e] at q; exact q
/-! loops -/
theorem at_for {wi : TI} (I : Nat → List Sl) (P : Nat → Prop) (hi : EvI wi Γ ds) (h0 : Wk (I 0) Γ) (p0 : P 0)
    (hs : ∀ (gb : Hp) (i : Nat) (d : PyData) (N : L2.St → Hp → Prop), ds[i]? = some d → P i → (P (i + 1) → At ⟨gb, B.g0, B.h0⟩ (I (i + 1)) N) → At ⟨gb, B.g0, B.h0⟩ ((I i).set j (.d d)) (t ⟨N, rt, nx, N⟩))
    (he : P ds.length → At B (I ds.length) nx) : At B Γ (tFor wi (gName j) t ⟨nx, rt, bk, ct⟩) := fun G σ H ok => hi B G σ H ok _ fun J G1 H1 s1 it => by
  refine ⟨fun i m σ2 H2 => m = ds.length - i ∧ i ≤ ds.length ∧ P i ∧ ∃ G2, Ex G1 G2 ∧ Ok B G2 σ2 H2 (I i), ⟨ds.length, by simp, Nat.zero_le _, p0, G1, Ex.rfl' G1, (ok.step s1).weak h0.len h0.get⟩, ?_⟩
  rintro i m σ2 H2 ⟨rfl, hil, pi, G2, e2, ok2⟩
  by_cases hlt : i < ds.length
  · have hget : ds[i]? = some ds[i] := List.getElem?_eq_getElem hlt
    refine .inr ⟨it.go i H2 hlt (e2.tr ok2.gh), fun σ' H' => P (i + 1) ∧ ∃ G', Ex G1 G' ∧ Ok B G' σ' H' (I (i + 1)), fun σ' H' h' => ⟨ds.length - (i + 1), by omega, rfl, hlt, h'⟩, fun x H' hy => ?_⟩
    obtain ⟨rfl, rx⟩ := it.yld i H2 x H' _ hget (e2.tr ok2.gh) hy
    have ok3 := ok2.setD j (v := x) (rx.up e2)
    refine hs G2 i _ (fun σ' H' => P (i + 1) ∧ ∃ G', Ex G1 G' ∧ Ok B G' σ' H' (I (i + 1))) hget pi (fun p1 G' σ' H' ok' => ⟨p1, G', e2.tr ok'.eb, ok'.reb (ok2.eb.tr ok'.eb)⟩) G2 _ H' (ok3.reb (Ex.rfl' G2))
  · have e : i = ds.length := by omega
    subst e
    exact .inl ⟨it.stop H2 (e2.tr ok2.gh), he pi G2 σ2 H2 ok2⟩
/-- while: the state a, its slots I a, a number that falls -/
theorem at_while {α : Type} (I : α → List Sl) (P : α → Prop) (μ : α → Nat) (cb : α → Bool) (a0 : α) (h0 : Wk (I a0) Γ) (p0 : P a0) (hc : ∀ a, P a → EvT tt (I a) (cb a))
    (hs : ∀ (a : α) (N : L2.St → Hp → Prop), P a → cb a = true → (∀ a', P a' → μ a' < μ a → At B (I a') N) → At B (I a) (t ⟨N, rt, nx, N⟩))
    (he : ∀ a, P a → cb a = false → At B (I a) nx) : At B Γ (tWhile tt t ⟨nx, rt, bk, ct⟩) := fun G σ H ok => by
  refine ⟨fun m σ2 H2 => ∃ a G2, m = μ a ∧ P a ∧ Ok B G2 σ2 H2 (I a), ⟨μ a0, a0, G, rfl, p0, ok.weak h0.len h0.get⟩, ?_⟩
  rintro m σ2 H2 ⟨a, G2, rfl, pa, ok2⟩
  refine hc a pa B G2 σ2 H2 ok2 _ fun G3 H3 s3 => ?_
  cases hb : cb a with
  | true =>
    rw [if_pos rfl]
    exact ⟨fun σ' H' => ∃ a' G', P a' ∧ μ a' < μ a ∧ Ok B G' σ' H' (I a'), fun σ' H' ⟨a', G', p', l, ok'⟩ => ⟨μ a', l, a', G', rfl, p', ok'⟩, hs a _ pa hb (fun a' p' l G' σ' H' ok' => ⟨a', G', p', l, ok'⟩) G3 σ2 H3 (ok2.step s3)⟩
  | false =>
    rw [if_neg Bool.false_ne_true]
    exact he a pa hb G3 σ2 H3 (ok2.step s3)
end

/-! ### promises -/
/-- a def that raises nothing: of the arguments ds (n of them) it tells d -/
def spP (n : Nat) (R : List PyData → PyData → Prop) : Sp := fun vs H Q _ => ∃ ds d G, Ex G H ∧ Rps G vs ds ∧ ds.length = n ∧ R ds d ∧ ∀ v G' H', Stp G H G' H' → Rp G' v d → Q v H'
theorem spP_len {n : Nat} {R : List PyData → PyData → Prop} {vs : List V} {H : Hp} {Q : VK} {E : XK} (h : spP n R vs H Q E) : vs.length = n := by
  obtain ⟨ds, d, G, _, r, l, _⟩ := h
  rw [r.length]; exact l
def sls (N : Nat) (ds : List PyData) : List Sl := ds.map Sl.d ++ List.replicate (N - ds.length) Sl.un
theorem ok_start {N : List Str} {vs : List V} {ds : List PyData} {G H : Hp} (e : Ex G H) (r : Rps G vs ds) : Ok ⟨G, G, H⟩ G (L2.start N vs) H (sls N.length ds) := by
  have hl := r.length
  refine ⟨fun _ => [], Ex.rfl' G, Stp.rfl' e, by simp [L2.start, sls, hl], fun i s q => ?_, fun i a m => (by cases m), fun i j a _ m => (by cases m)⟩
  unfold sls at q
  by_cases hi : i < ds.length
  · rw [List.getElem?_append_left (by rw [List.length_map]; exact hi), List.getElem?_map] at q
    have hd : ds[i]? = some ds[i] := List.getElem?_eq_getElem hi
    rw [hd] at q
    have q' : Sl.d ds[i] = s := Option.some.inj q
    obtain ⟨v, hv, rv⟩ := r.get hd
    subst q'
    refine ⟨v, ?_, rv⟩
    unfold L2.start
    rw [List.getElem?_append_left (by rw [List.length_map, hl]; exact hi), List.getElem?_map, hv]
    rfl
  · rw [List.getElem?_append_right (by rw [List.length_map]; omega)] at q
    have := List.mem_of_getElem? q
    rw [List.mem_replicate] at this
    rw [this.2]
    trivial
/-- a body's reading from its data -/
theorem spP_body {N : List Str} {n : Nat} {R : List PyData → PyData → Prop} {t : TS}
    (h : ∀ (ds : List PyData) (d : PyData) (B : Bs) (Q : VK), ds.length = n → R ds d → (∀ v G H, Stp B.g0 B.h0 G H → Rp G v d → Q v H) → At B (sls N.length ds) (t { nx := fun _ H' => Q .non H', rt := Q }))
    {vs : List V} {H : Hp} {Q : VK} {E : XK} (hs : spP n R vs H Q E) : t { nx := fun _ H' => Q .non H', rt := Q } (L2.start N vs) H := by
  obtain ⟨ds, d, G, e, r, l, hR, q⟩ := hs
  exact h ds d ⟨G, G, H⟩ Q l hR q G _ H (ok_start e r)
section
variable {Γ : List Sl} {ta : TA} {ds : List PyData} {d : PyData} {n : Nat} {R : List PyData → PyData → Prop} {E : XK}
theorem ev_call (h : EvA ta Γ ds) (hn : ds.length = n) (hR : R ds d) : Ev (tCall (spP n R) [] E ta) Γ d := fun B G σ H ok Q q =>
  h B G σ H ok _ fun vs G1 H1 s1 r1 => by
    rw [List.append_nil]
    exact ⟨ds, d, G1, s1.gh, r1, hn, hR, fun v G' H' s r => q v G' H' (s1.tr s) r⟩
end
end Ck

namespace Ck
open PySem PySem.Spec PyProof.Rows L2

/-! ### + -/
def rCatR : R2 := fun x y H Q => ∃ l b xs zs, x = .ref l ∧ y = .ref b ∧ Rd H l (.lst xs) ∧ Rd H b (.lst zs) ∧ xs.length + zs.length ≤ sizeLine ∧ ∀ p, H p = none → Q (.ref p) (upd H p (.lst (xs ++ zs)))
def rAddI : R2 := rI0 fun i j => .int (i + j)
def rAddS : R2 := fun x y H Q => ∃ i j, x = .str i ∧ y = .str j ∧ i.length + j.length ≤ sizeLine ∧ Q (.str (i ++ j)) H
def rAddU (K : PySem.W.Frag) : R2 := fun x y H Q => rAddI x y H Q ∨ rAddS x y H Q ∨ rCatR x y H Q ∨ rCatA K x y H Q
section
variable {X : Cx}
theorem op_catR : OpR X (binaryOp .Add) rCatR := by
  intro pins s σ H x y v u Q I rx ry h
  obtain ⟨l, b, xs, zs, rfl, rfl, hH, hB, hz, q⟩ := h
  cases rx
  cases ry
  obtain ⟨z, its, n, r, e⟩ := hH.ok I.hok
  obtain ⟨z2, its2, n2, r2, e2⟩ := hB.ok I.hok
  have hl := r.length
  have hl2 := r2.length
  refine PySem.P.add_list e e2 ?_ (by rw [List.size_toArray, List.size_toArray]; omega)
  have ea : its.toArray ++ its2.toArray = (its ++ its2).toArray := by simp
  rw [ea]
  exact ⟨.ref _, _, I.lnew (t' := s.toks) (r.append r2) (by rw [List.length_append]; omega), rfl, q _ I.fresh⟩
theorem op_addU : OpR X (binaryOp .Add) (rAddU X.K) := by
  intro pins s σ H x y v u Q I rx ry h
  rcases h with h | h | h | h
  · exact op_add pins s σ H x y v u Q I rx ry h
  · exact op_add_str pins s σ H x y v u Q I rx ry h
  · exact op_catR pins s σ H x y v u Q I rx ry h
  · exact op_catA pins s σ H x y v u Q I rx ry h
end
section
variable {K : PySem.W.Frag}
theorem rv_addI {i j : Int} : RvD (rAddU K) (.int i) (.int j) (.int (i + j)) := fun G H v u e rx ry Q q => by
  cases rx; cases ry
  exact .inl ⟨i, j, rfl, rfl, q _ G H (Stp.rfl' e) (.int _)⟩
theorem rv_addS {i j : Str} (h : i.length + j.length ≤ sizeLine) : RvD (rAddU K) (.str i) (.str j) (.str (i ++ j)) := fun G H v u e rx ry Q q => by
  cases rx; cases ry
  exact .inr (.inl ⟨i, j, rfl, rfl, h, q _ G H (Stp.rfl' e) (.str _)⟩)
theorem rvN_addL {xs ys : List PyData} (h : xs.length + ys.length ≤ sizeLine) : RvN (rAddU K) (.list xs) (.list ys) (xs ++ ys) := fun G H v u e rx ry Q q => by
  cases rx with
  | lst h1 r1 =>
    cases ry with
    | lst h2 r2 => exact .inr (.inr (.inl ⟨_, _, _, _, rfl, rfl, e.rd h1, e.rd h2, by rw [r1.length, r2.length]; exact h, fun p hp => q p _ G _ (Stp.newH e hp) hp (e.no hp) upd_same (r1.app r2)⟩))
theorem rv_addT {xs ys : List PyData} (h : xs.length + ys.length ≤ sizeLine) : RvD (rAddU K) (.tuple xs) (.tuple ys) (.tuple (xs ++ ys)) := fun G H v u e rx ry Q q => by
  cases rx with
  | @tup a vs _ h1 r1 =>
    cases ry with
    | @tup b ws _ h2 r2 =>
      refine .inr (.inr (.inr ⟨a, b, vs, ws, rfl, rfl, rd_sqt (e.rd h1), rd_sqt (e.rd h2), by rw [r1.length, r2.length]; exact h, fun z => ?_, fun z1 z2 => ?_, fun _ _ p hp => ?_⟩))
      · subst z
        cases r1
        exact q _ G H (Stp.rfl' e) (.tup h2 r2)
      · subst z2
        cases r2
        rw [List.append_nil] at q
        exact q _ G H (Stp.rfl' e) (.tup h1 r1)
      · exact q _ _ _ (Stp.new e hp) (.tup (.inl upd_same) ((r1.app r2).up (Ex.new (e.no hp))))
theorem rv_I0 {g : Int → Int → V} {i j : Int} {d : PyData} (h : ∀ G, Rp G (g i j) d) : RvD (rI0 g) (.int i) (.int j) d := fun G H v u e rx ry Q q => by
  cases rx; cases ry
  exact ⟨i, j, rfl, rfl, q _ G H (Stp.rfl' e) (h G)⟩
theorem rv_I {C : Int → Int → Prop} {g : Int → Int → V} {i j : Int} {d : PyData} (c : C i j) (h : ∀ G, Rp G (g i j) d) : RvD (rI C g) (.int i) (.int j) d := fun G H v u e rx ry Q q => by
  cases rx; cases ry
  exact ⟨i, j, rfl, rfl, c, q _ G H (Stp.rfl' e) (h G)⟩
theorem rv_sub {i j : Int} : RvD (rI0 fun i j => .int (i - j)) (.int i) (.int j) (.int (i - j)) := rv_I0 fun _ => .int _
theorem rv_lt {i j : Int} : RvD (rI0 fun i j => .bl (decide (i < j))) (.int i) (.int j) (.bool (decide (i < j))) := rv_I0 fun _ => .bl _
theorem rv_le {i j : Int} : RvD (rI0 fun i j => .bl (decide (i ≤ j))) (.int i) (.int j) (.bool (decide (i ≤ j))) := rv_I0 fun _ => .bl _
theorem rv_fdiv {i j : Int} (c : CDivN i j) : RvD (rI CDivN fun i j => .int (i.fdiv j)) (.int i) (.int j) (.int (i.fdiv j)) := rv_I c fun _ => .int _
theorem rv_mod {i j : Int} (c : j ≠ 0) : RvD (rI (fun _ j => j ≠ 0) fun i j => .int (i.fmod j)) (.int i) (.int j) (.int (i.fmod j)) := rv_I c fun _ => .int _
theorem rv_pow {i j : Int} (c : CPow i j) : RvD (rI CPow fun i j => .int (i ^ j.toNat)) (.int i) (.int j) (.int (i ^ j.toNat)) := rv_I c fun _ => .int _
end

/-! ### * -/
def rRepR : R2 := fun x y H Q => ∃ l k xs, x = .ref l ∧ y = .int k ∧ Rd H l (.lst xs) ∧ -(2 ^ 63) ≤ k ∧ k < 2 ^ 63 ∧ xs.length * k.toNat ≤ sizeLine ∧
  ∀ p, H p = none → Q (.ref p) (upd H p (.lst (List.replicate k.toNat xs).flatten))
def rMulS : R2 := fun x y H Q => ∃ (z : Str) (k : Int), x = .str z ∧ y = .int k ∧ MulOk z k ∧ Q (.str (Txt.mul z k)) H
def rMulU : R2 := fun x y H Q => rI CMul (fun i j => .int (i * j)) x y H Q ∨ rRepR x y H Q ∨ rMulS x y H Q
section
variable {X : Cx}
theorem op_repR : OpR X (binaryOp .Mult) rRepR := by
  intro pins s σ H x y v u Q I rx ry h
  obtain ⟨l, k, xs, rfl, rfl, hH, h1, h2, hz, q⟩ := h
  cases rx
  obtain ⟨t, rfl⟩ := ry
  obtain ⟨z, its, n, r, e⟩ := hH.ok I.hok
  have hl := r.length
  have hlen : its.toArray.size * k.toNat ≤ sizeLine := by rw [List.size_toArray, ← hl]; exact hz
  have hcap : ¬ its.toArray.size * k.toNat > (2 ^ 63 - 1) / 8 := by
    have : (sizeLine : Nat) ≤ (2 ^ 63 - 1) / 8 := by decide
    omega
  have hfit : ¬ (!Builtin.List.listFitsIndex k) = true := by
    rw [fitsIndex_both h1 h2]
    exact Bool.false_ne_true
  have hlong : ¬ Builtin.List.listTooLong (its.toArray.size * k.toNat) = true := by
    rw [notLongL hlen]
    exact Bool.false_ne_true
  have hnew : List.foldl (fun x1 x2 => x1 ++ x2) #[] (List.replicate (if its.toArray.isEmpty = true then 0 else k.toNat) its.toArray) = (List.replicate k.toNat its).flatten.toArray := by
    have f0 : ∀ m : Nat, List.foldl (fun x1 x2 => x1 ++ x2) #[] (List.replicate m its.toArray) = (List.replicate m its).flatten.toArray := fun m => by
      have := foldl_rep its m []
      rw [List.nil_append] at this
      exact this
    rw [f0]
    cases its with
    | nil => simp
    | cons a r' => rw [if_neg (by simp)]
  refine wpAny_binaryOp_repeat_ref (T := "list") (U := "int") (by decide) ⟨_, e, rfl⟩ (fun s' => typeIs_int s' k t) noFill_list_mul F.fills_int_mul F.slot_int_rmul repeat_list F.slot_int_index.lookup
    (call_meets F.slot_int_rmul (typeIs_int s k t) F.entry_int_rmul (F.args_int_rmul_2 _ _) (int___rmul___int_list k t l its.toArray n)
      ⟨e, rfl, ⟨_, e, rfl⟩, call_meets F.slot_list_mul ⟨_, e, rfl⟩ F.entry_list_mul (F.args_list_mul_2 _ _) (AutoListH.list___mul___list_int_3 l its.toArray n k t hfit hcap hlong) ⟨e, ?_⟩⟩)
  rw [hnew]
  exact ⟨.ref _, _, I.lnew (t' := s.toks) (r.rep k.toNat) (by rw [PyProof.Rows.lm_len_rep_flat, Nat.mul_comm]; exact hz), rfl, q _ I.fresh⟩
theorem op_mulS : OpR X (binaryOp .Mult) rMulS := by
  intro pins s σ H x y v u Q I rx ry h
  obtain ⟨z, k, rfl, rfl, hok, q⟩ := h
  obtain ⟨t, rfl⟩ := rx
  obtain ⟨t', rfl⟩ := ry
  exact PySem.SB.mul hok fun t2 k2 => ⟨.str _, H, I.tok _, ⟨_, rfl⟩, q⟩
theorem op_mulU : OpR X (binaryOp .Mult) rMulU := by
  intro pins s σ H x y v u Q I rx ry h
  rcases h with h | h | h
  · exact op_mul pins s σ H x y v u Q I rx ry h
  · exact op_repR pins s σ H x y v u Q I rx ry h
  · exact op_mulS pins s σ H x y v u Q I rx ry h
end
theorem rv_mulI {i j : Int} (c : CMul i j) : RvD rMulU (.int i) (.int j) (.int (i * j)) := fun G H v u e rx ry Q q => by
  cases rx; cases ry
  exact .inl ⟨i, j, rfl, rfl, c, q _ G H (Stp.rfl' e) (.int _)⟩
theorem rv_mulS {z : Str} {k : Int} (c : MulOk z k) : RvD rMulU (.str z) (.int k) (.str (Txt.mul z k)) := fun G H v u e rx ry Q q => by
  cases rx; cases ry
  exact .inr (.inr ⟨z, k, rfl, rfl, c, q _ G H (Stp.rfl' e) (.str _)⟩)
theorem Rps.rep {G : Hp} {vs : List V} {ds : List PyData} (r : Rps G vs ds) : ∀ n : Nat, Rps G (List.replicate n vs).flatten (List.replicate n ds).flatten
  | 0 => .nil
  | n + 1 => by
    rw [List.replicate_succ, List.replicate_succ, List.flatten_cons, List.flatten_cons]
    exact r.app (Rps.rep r n)
theorem rvN_mulL {xs : List PyData} {k : Int} (h1 : -(2 ^ 63) ≤ k) (h2 : k < 2 ^ 63) (h3 : xs.length * k.toNat ≤ sizeLine) : RvN rMulU (.list xs) (.int k) (List.replicate k.toNat xs).flatten := fun G H v u e rx ry Q q => by
  cases ry
  cases rx with
  | lst hd r => exact .inr (.inl ⟨_, k, _, rfl, rfl, e.rd hd, h1, h2, by rw [r.length]; exact h3, fun p hp => q p _ G _ (Stp.newH e hp) hp (e.no hp) upd_same (r.rep k.toNat)⟩)

/-! ### ==, in, is -/
section
variable {K : PySem.W.Frag}
theorem rv_eqD {x y : PyData} (sx : SeqAt.shaped x = true) (sy : SeqAt.shaped y = true) : RvD (rEqD K) x y (.bool (PyData.eqv x y)) := fun G H v u e rx ry Q q =>
  ⟨x, y, (rx.up e).toDp sx, (ry.up e).toDp sy, sx, sy, q _ G H (Stp.rfl' e) (.bl _)⟩
theorem rv_neD {x y : PyData} (sx : SeqAt.shaped x = true) (sy : SeqAt.shaped y = true) : RvD (rNeD K) x y (.bool (!PyData.eqv x y)) := fun G H v u e rx ry Q q =>
  ⟨x, y, (rx.up e).toDp sx, (ry.up e).toDp sy, sx, sy, q _ G H (Stp.rfl' e) (.bl _)⟩
end
def isNonD : PyData → Bool
  | .none => true
  | _ => false
def isTrueD : PyData → Bool
  | .bool b => b
  | _ => false
def rIsN' : R2 := fun x y H Q => y = .non ∧ Q (.bl (decide (x = .non))) H
def rNotN' : R2 := fun x y H Q => y = .non ∧ Q (.bl (!decide (x = .non))) H
theorem op_isN' {X : Cx} : OpR X (compareOp .Is) rIsN' := op_isN
theorem op_notN' {X : Cx} : OpR X (compareOp .IsNot) rNotN' := op_notN
theorem Rp.isNon {G : Hp} {v : V} {d : PyData} (h : Rp G v d) : decide (v = .non) = isNonD d := by
  cases h <;> rfl
theorem rv_isN {x : PyData} : RvD rIsN' x .none (.bool (isNonD x)) := fun G H v u e rx ry Q q => by
  cases ry
  refine ⟨rfl, ?_⟩
  rw [rx.isNon]
  exact q _ G H (Stp.rfl' e) (.bl _)
theorem rv_notN {x : PyData} : RvD rNotN' x .none (.bool (!isNonD x)) := fun G H v u e rx ry Q q => by
  cases ry
  refine ⟨rfl, ?_⟩
  rw [rx.isNon]
  exact q _ G H (Stp.rfl' e) (.bl _)
theorem rv_isB {a b : Bool} : RvD rIsB (.bool a) (.bool b) (.bool (decide (a = b))) := fun G H v u e rx ry Q q => by
  cases rx; cases ry
  exact ⟨a, b, rfl, rfl, q _ G H (Stp.rfl' e) (.bl _)⟩
/-- in: flat items of a list, a tuple; data in a list; one sign in a text -/
def rInU (K : PySem.W.Frag) : R2 := fun x y H Q => rIn K false x y H Q ∨ rInD K x y H Q ∨ (∃ (c : Nat) (z : Str), x = .str ⟨#[c]⟩ ∧ y = .str z ∧ Q (.bl (decide (c ∈ z.cps.toList))) H)
def rNotInU (K : PySem.W.Frag) : R2 := fun x y H Q => rIn K true x y H Q ∨ rNotInD K x y H Q
section
variable {X : Cx}
theorem op_inU (hu : X.A.units + 65 < cLine) : OpR X (compareOp .In) (rInU X.K) := by
  intro pins s σ H x y v u Q I rx ry h
  rcases h with h | h | h
  · exact op_in_seq pins s σ H x y v u Q I rx ry h
  · exact op_inD hu pins s σ H x y v u Q I rx ry h
  · exact op_in_sign pins s σ H x y v u Q I rx ry h
theorem op_notInU (hu : X.A.units + 65 < cLine) : OpR X (compareOp .NotIn) (rNotInU X.K) := by
  intro pins s σ H x y v u Q I rx ry h
  rcases h with h | h
  · exact op_notIn_seq pins s σ H x y v u Q I rx ry h
  · exact op_notInD hu pins s σ H x y v u Q I rx ry h
end
def eqS : PyData → PyData → Bool
  | .none, .none => true
  | .bool a, .bool b => a == b
  | .bool a, .int b => (if a then 1 else 0) == b
  | .int a, .bool b => a == (if b then 1 else 0)
  | .int a, .int b => a == b
  | .str a, .str b => a == b
  | _, _ => false
theorem Rp.flat {G : Hp} {v : V} {d : PyData} (h : Rp G v d) : flatV v = Sc d := by
  cases h <;> rfl
theorem Rps.flat {G : Hp} : ∀ {vs : List V} {ds : List PyData}, Rps G vs ds → vs.all flatV = ds.all Sc
  | _, _, .nil => rfl
  | _, _, .cons r t => by rw [List.all_cons, List.all_cons, r.flat, Rps.flat t]
theorem Rp.eqS {G : Hp} {v u : V} {d e : PyData} (h : Rp G v d) (k : Rp G u e) (fd : Sc d = true) (fe : Sc e = true) : eqV v u = eqS d e := by
  cases h with
  | lst _ _ => cases fd
  | tup _ _ => cases fd
  | dct _ _ => cases fd
  | _ => cases k with
    | lst _ _ => cases fe
    | tup _ _ => cases fe
    | dct _ _ => cases fe
    | _ => rfl
theorem Rps.inS {G : Hp} {x : V} {d : PyData} (h : Rp G x d) (fd : Sc d = true) : ∀ {vs : List V} {ds : List PyData}, Rps G vs ds → ds.all Sc = true → inV x vs = ds.any fun y => Ck.eqS y d
  | _, _, .nil, _ => rfl
  | _, _, .cons r t, f => by
    rw [List.all_cons, Bool.and_eq_true] at f
    unfold inV
    rw [List.any_cons, List.any_cons, r.eqS h f.1 fd]
    have := Rps.inS h fd t f.2
    unfold inV at this
    rw [this]
section
variable {K : PySem.W.Frag}
theorem rv_inT {x : PyData} {ds : List PyData} (sx : Sc x = true) (sd : ds.all Sc = true) : RvD (rInU K) x (.tuple ds) (.bool (ds.any fun y => eqS y x)) := fun G H v u e rx ry Q q => by
  cases ry with
  | tup hd r =>
    refine .inl ⟨_, _, rfl, .inr (rd_sqt (e.rd hd)), by rw [rx.flat]; exact sx, by rw [r.flat]; exact sd, ?_⟩
    rw [if_neg Bool.false_ne_true, Rps.inS rx sx r sd]
    exact q _ G H (Stp.rfl' e) (.bl _)
theorem rv_notInT {x : PyData} {ds : List PyData} (sx : Sc x = true) (sd : ds.all Sc = true) : RvD (rNotInU K) x (.tuple ds) (.bool (!ds.any fun y => eqS y x)) := fun G H v u e rx ry Q q => by
  cases ry with
  | tup hd r =>
    refine .inl ⟨_, _, rfl, .inr (rd_sqt (e.rd hd)), by rw [rx.flat]; exact sx, by rw [r.flat]; exact sd, ?_⟩
    rw [if_pos rfl, Rps.inS rx sx r sd]
    exact q _ G H (Stp.rfl' e) (.bl _)
theorem rv_inL {x : PyData} {ds : List PyData} (sx : SeqAt.shaped x = true) (sd : SeqAt.shaped (.list ds) = true) : RvD (rInU K) x (.list ds) (.bool (ds.any fun y => PyData.eqv y x)) := fun G H v u e rx ry Q q =>
  .inr (.inl ⟨x, ds, (rx.up e).toDp sx, (ry.up e).toDp sd, sx, sd, q _ G H (Stp.rfl' e) (.bl _)⟩)
theorem rv_notInL {x : PyData} {ds : List PyData} (sx : SeqAt.shaped x = true) (sd : SeqAt.shaped (.list ds) = true) : RvD (rNotInU K) x (.list ds) (.bool (!ds.any fun y => PyData.eqv y x)) := fun G H v u e rx ry Q q =>
  .inr ⟨x, ds, (rx.up e).toDp sx, (ry.up e).toDp sd, sx, sd, q _ G H (Stp.rfl' e) (.bl _)⟩
theorem rv_inS {c : Nat} {z : Str} : RvD (rInU K) (.str ⟨#[c]⟩) (.str z) (.bool (decide (c ∈ z.cps.toList))) := fun G H v u e rx ry Q q => by
  cases rx; cases ry
  exact .inr (.inr ⟨c, z, rfl, rfl, q _ G H (Stp.rfl' e) (.bl _)⟩)
end

/-! ### subscripts, slices -/
section
variable {K : PySem.W.Frag}
theorem rps_atI {G : Hp} {vs : List V} {ds : List PyData} {i : Int} {d : PyData} (r : Rps G vs ds) (h : atI ds i = some d) : ∃ v, atI vs i = some v ∧ Rp G v d := by
  unfold atI at h ⊢
  rw [r.length]
  obtain ⟨j, hj, hd⟩ := Option.bind_eq_some_iff.mp h
  obtain ⟨v, hv, rv⟩ := r.get hd
  exact ⟨v, by rw [hj]; exact hv, rv⟩
theorem rv_ixL {ds : List PyData} {i : Int} {d : PyData} (h : atI ds i = some d) : RvD (rIx K) (.list ds) (.int i) d := fun G H v u e rx ry Q q => by
  cases ry
  cases rx with
  | lst hd r =>
    obtain ⟨w, hw, rw'⟩ := rps_atI r h
    exact .inl ⟨_, _, i, w, rfl, rfl, rd_sql (e.rd hd), hw, q _ G H (Stp.rfl' e) rw'⟩
theorem rv_ixT {ds : List PyData} {i : Int} {d : PyData} (h : atI ds i = some d) : RvD (rIx K) (.tuple ds) (.int i) d := fun G H v u e rx ry Q q => by
  cases ry
  cases rx with
  | tup hd r =>
    obtain ⟨w, hw, rw'⟩ := rps_atI r h
    exact .inr (.inl ⟨_, _, i, w, rfl, rfl, rd_sqt (e.rd hd), hw, q _ G H (Stp.rfl' e) rw'⟩)
theorem rv_ixS {z : Str} {i : Int} {c : Nat} (hz : z.length ≤ sizeLine) (h : atI z.cps.toList i = some c) : RvD (rIx K) (.str z) (.int i) (.str ⟨#[c]⟩) := fun G H v u e rx ry Q q => by
  cases ry; cases rx
  exact .inr (.inr ⟨z, i, c, rfl, rfl, hz, h, q _ G H (Stp.rfl' e) (.str _)⟩)
end
def cutG {α : Type} (xs : List α) (lo hi : Option Int) : List α := (xs.drop (HT.sIx xs.length 0 lo)).take (HT.sIx xs.length xs.length hi - HT.sIx xs.length 0 lo)
theorem Rps.cut {G : Hp} {vs : List V} {ds : List PyData} (r : Rps G vs ds) (lo hi : Option Int) : Rps G (cutV vs lo hi) (cutG ds lo hi) := by
  unfold cutV cutG
  rw [r.length]
  exact (r.drop _).take _
theorem cutG_whole {α : Type} (xs : List α) {lo hi : Option Int} (h : HT.sIx xs.length 0 lo = 0 ∧ HT.sIx xs.length xs.length hi = xs.length) : cutG xs lo hi = xs := by
  unfold cutG
  rw [h.1, h.2, List.drop_zero, Nat.sub_zero, List.take_length]
def rSlS : V → Option Int → Option Int → Hp → VK → Prop := fun x lo hi H Q => ∃ z, x = .str z ∧ z.length ≤ sizeLine ∧ Q (.str (cutS z lo hi)) H
def rSlU (K : PySem.W.Frag) : V → Option Int → Option Int → Hp → VK → Prop := fun x lo hi H Q => rSlL K x lo hi H Q ∨ rSlA K x lo hi H Q ∨ rSlS x lo hi H Q
theorem sl_U {X : Cx} : SlR X (rSlU X.K) := sl_list.or (sl_tupA.or sl_str)
section
variable {K : PySem.W.Frag}
theorem rsN_L {ds : List PyData} {lo hi : Option Int} : RsN (rSlU K) (.list ds) lo hi (cutG ds lo hi) := fun G H v e rx Q q => by
  cases rx with
  | lst hd r => exact .inl ⟨_, _, rfl, rd_sql (e.rd hd), fun p hp => q p _ G _ (Stp.newH e hp) hp (e.no hp) upd_same (r.cut lo hi)⟩
theorem rs_T {ds : List PyData} {lo hi : Option Int} : RsD (rSlU K) (.tuple ds) lo hi (.tuple (cutG ds lo hi)) := fun G H v e rx Q q => by
  cases rx with
  | @tup a vs _ hd r =>
    refine .inr (.inl ⟨a, vs, rfl, rd_sqt (e.rd hd), fun w => ?_, fun _ p hp => ?_⟩)
    · rw [r.length] at w
      rw [cutG_whole ds w] at q
      exact q _ G H (Stp.rfl' e) (.tup hd r)
    · exact q _ _ _ (Stp.new e hp) (.tup (.inl upd_same) ((r.cut lo hi).up (Ex.new (e.no hp))))
theorem rs_S {z : Str} {lo hi : Option Int} (hz : z.length ≤ sizeLine) : RsD (rSlU K) (.str z) lo hi (.str (cutS z lo hi)) := fun G H v e rx Q q => by
  cases rx
  exact .inr (.inr ⟨z, rfl, hz, q _ G H (Stp.rfl' e) (.str _)⟩)
end

/-! ### calls of built-ins -/
def rLenV (K : PySem.W.Frag) : List V → Hp → VK → Prop := fun xs H Q => ∃ x n, xs = [x] ∧ LenV K x H n ∧ Q (.int n) H
theorem call_lenV {X : Cx} : CallR X (.builtin "len") (rLenV X.K) := call_len
def rListV (K : PySem.W.Frag) : List V → Hp → VK → Prop := fun xs H Q => ∃ p ys, xs = [.ref p] ∧ (SqL K H p ys ∨ SqT K H p ys) ∧ ∀ l, H l = none → Q (.ref l) (upd H l (.lst ys))
theorem call_listV {X : Cx} : CallR X (.type "list") (rListV X.K) := call_list_of
def rMax2V : List V → Hp → VK → Prop := fun xs H Q => ∃ i j, xs = [.int i, .int j] ∧ Q (.int (if j > i then j else i)) H
def rMin2V : List V → Hp → VK → Prop := fun xs H Q => ∃ i j, xs = [.int i, .int j] ∧ Q (.int (if j < i then j else i)) H
def rInt1V : List V → Hp → VK → Prop := fun xs H Q => (∃ i, xs = [.int i] ∧ Q (.int i) H) ∨ ∃ k, xs = [.bl k] ∧ Q (.int (if k then 1 else 0)) H
theorem call_max2V {X : Cx} (hc : X.calm = true) : CallR X (.builtin "max") rMax2V := call_max2 hc
theorem call_min2V {X : Cx} (hc : X.calm = true) : CallR X (.builtin "min") rMin2V := call_min2 hc
theorem call_int1V {X : Cx} : CallR X (.type "int") rInt1V := call_int1
section
variable {K : PySem.W.Frag} {Γ : List Sl} {ta tb : TE}
theorem rc_lenL {ds : List PyData} : RcD (rLenV K) [.list ds] (.int ds.length) := fun G H vs e r Q q => by
  cases r with
  | cons r1 r2 =>
    cases r2
    cases r1 with
    | lst hd r => exact ⟨_, ds.length, rfl, .inl ⟨_, rd_sql (e.rd hd), r.length.symm⟩, q _ G H (Stp.rfl' e) (.int _)⟩
theorem rc_lenT {ds : List PyData} : RcD (rLenV K) [.tuple ds] (.int ds.length) := fun G H vs e r Q q => by
  cases r with
  | cons r1 r2 =>
    cases r2
    cases r1 with
    | tup hd r => exact ⟨_, ds.length, rfl, .inr ⟨_, rd_sqt (e.rd hd), r.length.symm⟩, q _ G H (Stp.rfl' e) (.int _)⟩
theorem rc_lenS {z : Str} (hz : z.length ≤ sizeLine) : RcD (rLenV K) [.str z] (.int z.length) := fun G H vs e r Q q => by
  cases r with
  | cons r1 r2 =>
    cases r2
    cases r1
    exact ⟨_, z.length, rfl, ⟨hz, rfl⟩, q _ G H (Stp.rfl' e) (.int _)⟩
theorem rcN_listL {ds : List PyData} : RcN (rListV K) [.list ds] ds := fun G H vs e r Q q => by
  cases r with
  | cons r1 r2 =>
    cases r2
    cases r1 with
    | lst hd r => exact ⟨_, _, rfl, .inl (rd_sql (e.rd hd)), fun l hl => q l _ G _ (Stp.newH e hl) hl (e.no hl) upd_same r⟩
theorem rcN_listT {ds : List PyData} : RcN (rListV K) [.tuple ds] ds := fun G H vs e r Q q => by
  cases r with
  | cons r1 r2 =>
    cases r2
    cases r1 with
    | tup hd r => exact ⟨_, _, rfl, .inr (rd_sqt (e.rd hd)), fun l hl => q l _ G _ (Stp.newH e hl) hl (e.no hl) upd_same r⟩
theorem rc_max2 {i j : Int} : RcD rMax2V [.int i, .int j] (.int (max i j)) := fun G H vs e r Q q => by
  cases r with
  | cons r1 r2 =>
    cases r2 with
    | cons r2 r3 =>
      cases r3; cases r1; cases r2
      refine ⟨i, j, rfl, ?_⟩
      have : (if j > i then j else i) = max i j := by omega
      rw [this]
      exact q _ G H (Stp.rfl' e) (.int _)
theorem rc_min2 {i j : Int} : RcD rMin2V [.int i, .int j] (.int (min i j)) := fun G H vs e r Q q => by
  cases r with
  | cons r1 r2 =>
    cases r2 with
    | cons r2 r3 =>
      cases r3; cases r1; cases r2
      refine ⟨i, j, rfl, ?_⟩
      have : (if j < i then j else i) = min i j := by omega
      rw [this]
      exact q _ G H (Stp.rfl' e) (.int _)
theorem rc_intB {b : Bool} : RcD rInt1V [.bool b] (.int (if b then 1 else 0)) := fun G H vs e r Q q => by
  cases r with
  | cons r1 r2 =>
    cases r2; cases r1
    exact .inr ⟨b, rfl, q _ G H (Stp.rfl' e) (.int _)⟩
theorem rc_sum {ns : List Int} : RcD (rSum K) [.list (ns.map .int)] (.int ns.sum) := fun G H vs e r Q q => by
  cases r with
  | cons r1 r2 =>
    cases r2
    cases r1 with
    | lst hd r =>
      have e1 := r.ints
      subst e1
      exact ⟨_, ns, rfl, rd_sql (e.rd hd), q _ G H (Stp.rfl' e) (.int _)⟩
theorem rc_maxL {ns : List Int} {m : Int} (h0 : 0 < ns.length) (hm : ∀ k, k ∈ ns → (∀ y, y ∈ ns → y ≤ k) → k = m) : RcD (rMax K) [.list (ns.map .int)] (.int m) := fun G H vs e r Q q => by
  cases r with
  | cons r1 r2 =>
    cases r2
    cases r1 with
    | lst hd r =>
      have e1 := r.ints
      subst e1
      refine ⟨_, ns, rfl, rd_sql (e.rd hd), h0, fun k hk hle => ?_⟩
      rw [hm k hk hle]
      exact q _ G H (Stp.rfl' e) (.int _)
theorem rc_all {bs : List Bool} : RcD (rAll K) [.list (bs.map .bool)] (.bool (bs.all id)) := fun G H vs e r Q q => by
  cases r with
  | cons r1 r2 =>
    cases r2
    cases r1 with
    | lst hd r =>
      have e1 := r.bls
      subst e1
      exact ⟨_, bs, rfl, rd_sql (e.rd hd), q _ G H (Stp.rfl' e) (.bl _)⟩
theorem rcN_sorted {ns ns' : List Int} (h64 : ns.length < 64) (hp : ns'.Perm ns) (hs : ns'.Pairwise (· ≤ ·)) : RcN (rSorted K) [.list (ns.map .int)] (ns'.map .int) := fun G H vs e r Q q => by
  cases r with
  | cons r1 r2 =>
    cases r2
    cases r1 with
    | lst hd r =>
      have e1 := r.ints
      subst e1
      refine ⟨_, ns, rfl, rd_sql (e.rd hd), h64, fun ms p hpm hsm hn => ?_⟩
      have e2 : ms = ns' := by
        have hperm := hpm.trans hp.symm
        exact List.Perm.eq_of_pairwise (fun a b _ _ h1 h2 => Int.le_antisymm h1 h2) hsm hs hperm
      subst e2
      exact q p _ G _ (Stp.newH e hn) hn (e.no hn) upd_same (Rps.ofInts _)
/-! isinstance with a built-in class -/
def tyNm : PyData → String
  | .none => "NoneType"
  | .bool _ => "bool"
  | .int _ => "int"
  | .str _ => "str"
  | .list _ => "list"
  | .tuple _ => "tuple"
  | .dict _ => "dict"
theorem Rp.ty {G : Hp} {v : V} {d : PyData} (h : Rp G v d) : TyX K G v (.type (tyNm d)) := by
  cases h with
  | non => exact .base .non
  | bl b => exact .base (.bl b)
  | int i => exact .base (.int i)
  | str x => exact .base (.str x)
  | lst h r =>
    rcases h with h | ⟨o, h⟩
    · exact .base (.lst h)
    · exact .base (.frz h)
  | tup h r =>
    rcases h with h | ⟨o, h⟩
    · exact .base (.tup h)
    · exact .fTuple h
  | dct h _ => exact .base (.dK h)
theorem ev_isi {n : String} {d : PyData} {b : Bool} (h : Ev ta Γ d) (hb : kitB (tyNm d) n = some b) : Ev (tCB (rIsi K) (tCons ta (tCons (tC (.ty n)) tNil))) Γ (.bool b) := fun B G σ H ok Q q =>
  h B G σ H ok _ fun v G1 H1 s1 r1 => ⟨v, .ty n, .type (tyNm d), .type n, b, rfl, .ty n, (r1.up s1.gh).ty, kit_ty hb, q _ G1 H1 s1 (.bl b)⟩
end

/-! ### in a range -/
def rRange1 : List V → Hp → VK → Prop := fun vs H Q => ∃ j, vs = [V.int j] ∧ ∀ p, H p = none → Q (.ref p) (upd H p (.rng 0 j))
def rInR : R2 := fun x y H Q => ∃ i a lo hi, x = V.int i ∧ y = V.ref a ∧ H a = some (.rng lo hi) ∧ Q (.bl (decide (lo ≤ i ∧ i < hi))) H
def rNotInR : R2 := fun x y H Q => ∃ i a lo hi, x = V.int i ∧ y = V.ref a ∧ H a = some (.rng lo hi) ∧ Q (.bl (!decide (lo ≤ i ∧ i < hi))) H
section
variable {X : Cx}
theorem cr_range1 : CallR X (.type "range") rRange1 := by
  intro pins s σ H xs us Q I r h
  obtain ⟨j, rfl, q⟩ := h
  obtain ⟨u1, rfl, t, rfl⟩ := vals1 r
  refine call_range_1 ⟨.ref _, upd H _ (.rng 0 j), I.laid (fun b o e => Heap.get?_push_of_some _ e) (Nat.le_refl _) ?_, rfl, q _ (I.hok.fresh (Nat.le_refl _))⟩
  exact ⟨_, _, _, Heap.get?_push_size _ rfl⟩
theorem op_inR : OpR X (compareOp .In) rInR := op_in_rng
theorem op_notInR : OpR X (compareOp .NotIn) rNotInR := by
  intro pins s σ H x y v u Q I rx ry h
  obtain ⟨i, a, lo, hi, rfl, rfl, ha, q⟩ := h
  obtain ⟨k, rfl⟩ := rx
  obtain rfl : u = Value.ref a := ry
  obtain ⟨t1, t2, t3, ho⟩ := I.hok a _ ha
  show wpAny _ _ (do return Value.bool (!(← contains (Value.ref a) (Value.int i k)))) _ _ s
  refine wpAny_bind (wpAny_contains_slot (T := "range") ⟨_, ho, rfl⟩ F.slot_range_contains (call_meets F.slot_range_contains ⟨_, ho, rfl⟩ F.entry_range_contains (F.args_range_contains_2 _ _) (q_contains a lo hi i t1 t2 t3 k)
    ⟨ho, wpAny_truthy_bool (wpAny_pure ⟨.bl _, H, I, rfl, ?_⟩)⟩))
  rw [place1]
  exact q
end
section
variable {Γ : List Sl} {ta tn : TE} {i n : Int}
theorem ev_inR (h : Ev ta Γ (.int i)) (hn : Ev tn Γ (.int n)) : Ev (tOp rInR ta (tCB rRange1 (tCons tn tNil))) Γ (.bool (decide (0 ≤ i ∧ i < n))) := fun B G σ H ok Q q =>
  h B G σ H ok _ fun v G1 H1 s1 r1 => hn B G1 σ H1 (ok.step s1) _ fun u G2 H2 s2 r2 => by
    cases r1; cases r2
    exact ⟨n, rfl, fun p hp => ⟨i, p, 0, n, rfl, rfl, upd_same, q _ _ _ ((s1.tr s2).tr (Stp.newH s2.gh hp)) (.bl _)⟩⟩
theorem ev_notInR (h : Ev ta Γ (.int i)) (hn : Ev tn Γ (.int n)) : Ev (tOp rNotInR ta (tCB rRange1 (tCons tn tNil))) Γ (.bool (!decide (0 ≤ i ∧ i < n))) := fun B G σ H ok Q q =>
  h B G σ H ok _ fun v G1 H1 s1 r1 => hn B G1 σ H1 (ok.step s1) _ fun u G2 H2 s2 r2 => by
    cases r1; cases r2
    exact ⟨n, rfl, fun p hp => ⟨i, p, 0, n, rfl, rfl, upd_same, q _ _ _ ((s1.tr s2).tr (Stp.newH s2.gh hp)) (.bl _)⟩⟩
end
end Ck

namespace Ck
open PySem PySem.Spec PyProof.Rows L2

/-! ### the defs of the text -/
abbrev FnP (K : PySem.W.Frag) (x : Str) (st : Stmt) (f : Addr) (fd : FuncData) : Prop := FunD K x x (defArgs st) (defBody st) (defScope st) [] [] f fd
def Has (K : PySem.W.Frag) (mg : Str → Option Value) (x : Str) (st : Stmt) : Prop := ∃ f fd, FnP K x st f fd ∧ mg x = some (.ref f)
structure Def (P : Program) (w : World) (K : PySem.W.Frag) (mg : Str → Option Value) (base : Heap) (CX : CXT) (k : Nat) (x : Str) (ps : List Str) (sp : Sp) : Prop where
  ex : ∃ f fd, mg x = some (.ref f) ∧ PySem.W.keepIn K (.ref f) = true ∧ Binds K fd ps [] ∧ FnOk P w K mg base CX k f fd ps sp ∧ ∃ oc od osl, K.lookup f = some ⟨oc, od, .func fd, osl⟩
theorem passX0 {X : Cx} : Passes (L2.CX X.prog X.w) X E0 := fun _ _ _ _ _ _ _ h => by
  obtain ⟨_, _, _, _, _, _, _, _, _, _, _, _, z⟩ := h
  exact z.elim
/-- every parameter is written -/
abbrev BindsP (x : Str) (st : Stmt) (ps : List Str) : Prop := ∀ (kV doc pm : Value) (an : Option Addr) (cdv ct : Value) (us : List Value), us.length = ps.length →
  bindArgs (PySem.W.fnOf x x (defArgs st) (defBody st) (defScope st) .none kV doc pm an cdv ct) ⟨us, []⟩ = pure (ps.zip us)
section
variable {P : Program} {w : World} {K : PySem.W.Frag} {mg : Str → Option Value} {base : Heap} {x : Str} {st : Stmt} {N ps : List Str} {k n : Nat}
/-- what a returned value must bring -/
abbrev RtOk (B : Bs) (Q : VK) (d : PyData) : Prop := ∀ v G H, Stp B.g0 B.h0 G H → Rp G v d → Q v H
abbrev BodyP (N n : Nat) (R : List PyData → PyData → Prop) (t : TS) : Prop := ∀ (ds : List PyData) (d : PyData) (B : Bs) (Q : VK), ds.length = n → R ds d → RtOk B Q d → At B (sls N ds) (t { nx := fun _ H' => Q .non H', rt := Q })
theorem mk_def {CX : CXT} {sp : Sp} (h : Has K mg x st) (hb : BindsP x st ps) (S : FnScope N ps (defScope st)) (len : ∀ vs H Q E, sp vs H Q E → vs.length = ps.length)
    (hbody : ∀ (f : Addr) (cdv : Value) (A : Around) (outer : List Env) (s : Shared) (H : Hp) (vs : List V) (Q : VK) (E : XK), Room k (A.deeper (envOfC x (defScope st) s.heap.objs.size f cdv)) → sp vs H Q E →
      ∃ t, PSs (cxOf CX P w K mg base N x (defScope st) f cdv A outer s H E) (defBody st) t ∧ t { nx := fun _ H' => Q .non H', rt := Q } (L2.start N vs) H) : Def P w K mg base CX (k + 1) x ps sp := by
  obtain ⟨f, fd, F, g⟩ := h
  obtain ⟨oc, od, _, _, _, _, _, _, _, osl, _, lk, _⟩ := F.ex
  exact ⟨f, fd, g, F.kp, F.bindsN hb, F.ok S len fun cdv A outer s H vs Q E hr hsp => hbody f cdv A outer s H vs Q E hr hsp, oc, od, osl, lk⟩
/-- a def that raises nothing -/
theorem mkP {R : List PyData → PyData → Prop} (h : Has K mg x st) (hb : BindsP x st ps) (S : FnScope N ps (defScope st)) (hn : ps.length = n)
    (hbody : ∀ (f : Addr) (cdv : Value) (A : Around) (outer : List Env) (s : Shared) (H : Hp) (E : XK), Room k (A.deeper (envOfC x (defScope st) s.heap.objs.size f cdv)) →
      ∃ t, PSs (cxOf CX0 P w K mg base N x (defScope st) f cdv A outer s H E).nox (defBody st) t ∧ BodyP N.length n R t) : Def P w K mg base CX0 (k + 1) x ps (spP n R) :=
  mk_def h hb S (fun vs H Q E z => (spP_len z).trans hn.symm) fun f cdv A outer s H vs Q E hr hsp => by
    obtain ⟨t, h1, h2⟩ := hbody f cdv A outer s H E hr
    exact ⟨t, h1.nox, spP_body (N := N) (fun ds d B Q hl hR q => h2 ds d B Q hl hR q) hsp⟩
end
section
variable {X : Cx} {j k : Nat} {x : Str} {ps : List Str} {sp : Sp} {p pos : Pos} {e : Expr} {es : List Expr} {t : TA} {E : XK}
theorem pe_callD (D : Def X.prog X.w X.K X.mg X.base CX0 j x ps sp) (hr : Room k X.A) (ha : PA X (e :: es) t) (hj : j ≤ k := by decide) (hg : Gl X x := by rfl) (hdb : (x == ("__debug__" : Str)) = false := by decide)
    (he : starEach (e :: es) X.env = (false, eval e X.env) :: starEach es X.env := by rfl) (hpl : (backTo pos (starEach es X.env)).any (·.1) = false := by rfl) : PE X (.Call (.Name x p) (e :: es) [] pos) (tCall sp [] E0 t) := by
  obtain ⟨f, fd, hm, hk, hb, F, _⟩ := D.ex
  exact pe_call F (hr.mono hj) hg hm hk hb .nil pass0 ha hdb he hpl
/-- of a def that may raise, where it is known that it does not -/
theorem pe_callD0 (D : Def X.prog X.w X.K X.mg X.base (L2.CX X.prog X.w) j x ps sp) (hr : Room k X.A) (ha : PA X (e :: es) t) (hj : j ≤ k := by decide) (hg : Gl X x := by rfl) (hdb : (x == ("__debug__" : Str)) = false := by decide)
    (he : starEach (e :: es) X.env = (false, eval e X.env) :: starEach es X.env := by rfl) (hpl : (backTo pos (starEach es X.env)).any (·.1) = false := by rfl) : PE X (.Call (.Name x p) (e :: es) [] pos) (tCall sp [] E0 t) := by
  obtain ⟨f, fd, hm, hk, hb, F, _⟩ := D.ex
  exact pe_call F (hr.mono hj) hg hm hk hb .nil passX0 ha hdb he hpl
/-- .. which leaves this def, too -/
theorem pe_callDX (D : Def X.prog X.w X.K X.mg X.base (L2.CX X.prog X.w) j x ps sp) (hr : Room k X.A) (tk : Takes X fun cls d _ H => E cls d H) (ha : PA X (e :: es) t) (hj : j ≤ k := by decide) (hg : Gl X x := by rfl) (hdb : (x == ("__debug__" : Str)) = false := by decide)
    (he : starEach (e :: es) X.env = (false, eval e X.env) :: starEach es X.env := by rfl) (hpl : (backTo pos (starEach es X.env)).any (·.1) = false := by rfl) : PE X (.Call (.Name x p) (e :: es) [] pos) (tCall sp [] E t) := by
  obtain ⟨f, fd, hm, hk, hb, F, _⟩ := D.ex
  exact pe_call F (hr.mono hj) hg hm hk hb .nil (passes_call tk fun _ _ _ _ h => h) ha hdb he hpl
/-- .. in a try's body -/
theorem pe_callDS {W : WX} (D : Def X.prog X.w X.K X.mg X.base (L2.CX X.prog X.w) j x ps sp) (hr : Room k X.A) (tk : Takes X W) (ha : PA X (e :: es) t) (hj : j ≤ k := by decide) (hg : Gl X x := by rfl) (hdb : (x == ("__debug__" : Str)) = false := by decide)
    (he : starEach (e :: es) X.env = (false, eval e X.env) :: starEach es X.env := by rfl) (hpl : (backTo pos (starEach es X.env)).any (·.1) = false := by rfl) : PE X (.Call (.Name x p) (e :: es) [] pos) (tCallS sp (WE W) t) := by
  obtain ⟨f, fd, hm, hk, hb, F, _⟩ := D.ex
  exact pe_callS F (hr.mono hj) hg hm hk hb (fun σ => passAt tk σ) ha hdb he hpl
theorem hu64 {A : Around} (hr : Room k A) : A.units + 64 < cLine := by have := hr.un; omega
theorem hu65 {A : Around} (hr : Room k A) : A.units + 65 < cLine := by have := hr.un; omega
theorem hu1 {A : Around} (hr : Room k A) : A.units + 1 < cLine := by have := hr.un; omega
end
end Ck

namespace Ck
open PySem PySem.Spec PyProof.Rows L2

section
variable {K : PySem.W.Frag} {Γ : List Sl} {ta tb te : TE} {x y z : PyData} {ds xs ys : List PyData} {b c : Bool} {i : Nat} {r : R2}
theorem RvN.d (h : RvN r x y ds) : RvD r x y (.list ds) := fun G H v u e rx ry Q q => h G H v u e rx ry Q fun a vs G' H' s h0 hg hh rr => q (.ref a) _ H' (s.give h0 hg hh) (.lst (.inl upd_same) (rr.up (Ex.new hg)))
theorem RcN.d {r : List V → Hp → VK → Prop} (h : RcN r xs ds) : RcD r xs (.list ds) := fun G H vs e rx Q q => h G H vs e rx Q fun a vs G' H' s h0 hg hh rr => q (.ref a) _ H' (s.give h0 hg hh) (.lst (.inl upd_same) (rr.up (Ex.new hg)))
theorem RsN.d {r : V → Option Int → Option Int → Hp → VK → Prop} {lo hi : Option Int} (h : RsN r x lo hi ds) : RsD r x lo hi (.list ds) := fun G H v e rx Q q => h G H v e rx Q fun a vs G' H' s h0 hg hh rr => q (.ref a) _ H' (s.give h0 hg hh) (.lst (.inl upd_same) (rr.up (Ex.new hg)))
variable {d : PyData}
theorem rv_modP {i j : Int} (c : 0 < j) : RvD (rI (fun _ j => 0 < j) fun i j => .int (i % j)) (.int i) (.int j) (.int (i % j)) := rv_I c fun _ => .int _
theorem rv_fdivP {i j : Int} (c : CDiv i j) : RvD (rI CDiv fun i j => .int (i / j)) (.int i) (.int j) (.int (i / j)) := rv_I c fun _ => .int _
theorem rv_gt {i j : Int} : RvD (rI0 fun i j => .bl (decide (j < i))) (.int i) (.int j) (.bool (decide (j < i))) := rv_I0 fun _ => .bl _
theorem rv_ge {i j : Int} : RvD (rI0 fun i j => .bl (decide (j ≤ i))) (.int i) (.int j) (.bool (decide (j ≤ i))) := rv_I0 fun _ => .bl _
theorem ru_neg {n : Int} : RuD (rU fun i => .int (-i)) (.int n) (.int (-n)) := fun G H v e rx Q q => by
  cases rx; exact ⟨n, rfl, q _ G H (Stp.rfl' e) (.int _)⟩

/-! shapes -/
structure Shp (n : Nat) (d : PyData) : Prop where
  lay : d.canLay0 = true
  dep : d.depth ≤ n
theorem Shp.sh {n : Nat} (h : Shp n d) (hn : n ≤ 64 := by decide) : SeqAt.shaped d = true := by
  unfold SeqAt.shaped
  rw [h.lay, decide_eq_true (Nat.le_trans h.dep hn)]; rfl
theorem Shp.mono {n m : Nat} (h : Shp n d) (hn : n ≤ m) : Shp m d := ⟨h.lay, Nat.le_trans h.dep hn⟩
theorem shp_int {n : Nat} {k : Int} : Shp n (.int k) := ⟨by simp [PyData.canLay0], by simp [PyData.depth]⟩
theorem shp_bool {n : Nat} {k : Bool} : Shp n (.bool k) := ⟨by simp [PyData.canLay0], by simp [PyData.depth]⟩
theorem shp_none {n : Nat} : Shp n .none := ⟨by simp [PyData.canLay0], by simp [PyData.depth]⟩
theorem shp_str {n : Nat} {k : Str} (h : PyData.strOk k = true) : Shp n (.str k) := ⟨by simp [PyData.canLay0, h], by simp [PyData.depth]⟩
theorem layAll_of : ∀ {ds : List PyData}, (∀ x ∈ ds, x.canLay0 = true) → PyData.canLayAll0 ds = true
  | [], _ => by simp [PyData.canLayAll0]
  | x :: xs, h => by
    simp only [PyData.canLayAll0, Bool.and_eq_true]
    exact ⟨h x List.mem_cons_self, layAll_of fun y hy => h y (List.mem_cons_of_mem _ hy)⟩
theorem depAll_of {n : Nat} : ∀ {ds : List PyData}, (∀ x ∈ ds, x.depth ≤ n) → PyData.depthAll ds ≤ n
  | [], _ => by simp [PyData.depthAll]
  | x :: xs, h => by
    simp only [PyData.depthAll]
    have h1 := h x List.mem_cons_self
    have h2 := depAll_of (n := n) fun y hy => h y (List.mem_cons_of_mem _ hy)
    omega
theorem shp_list {n : Nat} (h : ∀ x ∈ ds, Shp n x) : Shp (n + 1) (.list ds) := ⟨by simp only [PyData.canLay0]; exact layAll_of fun x hx => (h x hx).lay, by simp only [PyData.depth]; exact Nat.succ_le_succ (depAll_of fun x hx => (h x hx).dep)⟩
theorem shp_tuple {n : Nat} (h : ∀ x ∈ ds, Shp n x) : Shp (n + 1) (.tuple ds) := ⟨by simp only [PyData.canLay0]; exact layAll_of fun x hx => (h x hx).lay, by simp only [PyData.depth]; exact Nat.succ_le_succ (depAll_of fun x hx => (h x hx).dep)⟩
theorem shp_mem {n : Nat} {ds : List PyData} {y : PyData} (h : Shp n (.list ds)) (hy : y ∈ ds) : Shp n y := by
  obtain ⟨h1, h2⟩ := h
  simp only [PyData.canLay0] at h1
  simp only [PyData.depth] at h2
  have key : ∀ {ds : List PyData}, PyData.canLayAll0 ds = true → y ∈ ds → y.canLay0 = true ∧ y.depth ≤ PyData.depthAll ds := by
    intro ds
    induction ds with
    | nil => intro _ h; cases h
    | cons x xs ih =>
      intro h hy
      simp only [PyData.canLayAll0, Bool.and_eq_true] at h
      simp only [PyData.depthAll]
      rcases List.mem_cons.mp hy with rfl | hy
      · exact ⟨h.1, by omega⟩
      · have := ih h.2 hy
        exact ⟨this.1, by omega⟩
  have := key h1 hy
  exact ⟨this.1, by omega⟩
/-! eqv of scalars -/
theorem eqv_int {m n : Int} : PyData.eqv (.int m) (.int n) = decide (m = n) := by simp only [PyData.eqv, Bool.beq_eq_decide_eq]
theorem eqv_str {m n : Str} : PyData.eqv (.str m) (.str n) = decide (m = n) := by
  simp only [PyData.eqv]
  by_cases h : m = n
  · subst h; simp
  · rw [decide_eq_false h]; exact beq_eq_false_iff_ne.mpr h
theorem rv_eqI {m n : Int} : RvD (rEqD K) (.int m) (.int n) (.bool (decide (m = n))) := by
  have h := rv_eqD (K := K) (x := .int m) (y := .int n) (shp_int (n := 0)).sh (shp_int (n := 0)).sh
  rw [eqv_int] at h; exact h
theorem rv_neI {m n : Int} : RvD (rNeD K) (.int m) (.int n) (.bool (!decide (m = n))) := by
  have h := rv_neD (K := K) (x := .int m) (y := .int n) (shp_int (n := 0)).sh (shp_int (n := 0)).sh
  rw [eqv_int] at h; exact h
theorem rv_eqS {m n : Str} (h1 : PyData.strOk m = true) (h2 : PyData.strOk n = true) : RvD (rEqD K) (.str m) (.str n) (.bool (decide (m = n))) := by
  have h := rv_eqD (K := K) (x := .str m) (y := .str n) (shp_str (n := 0) h1).sh (shp_str (n := 0) h2).sh
  rw [eqv_str] at h; exact h
theorem rv_neS {m n : Str} (h1 : PyData.strOk m = true) (h2 : PyData.strOk n = true) : RvD (rNeD K) (.str m) (.str n) (.bool (!decide (m = n))) := by
  have h := rv_neD (K := K) (x := .str m) (y := .str n) (shp_str (n := 0) h1).sh (shp_str (n := 0) h2).sh
  rw [eqv_str] at h; exact h
theorem eqv_bool {m n : Bool} : PyData.eqv (.bool m) (.bool n) = (m == n) := by simp only [PyData.eqv]
theorem rv_eqB {m n : Bool} : RvD (rEqD K) (.bool m) (.bool n) (.bool (m == n)) := by
  have h := rv_eqD (K := K) (x := .bool m) (y := .bool n) (shp_bool (n := 0)).sh (shp_bool (n := 0)).sh
  rw [eqv_bool] at h; exact h
theorem rv_neB {m n : Bool} : RvD (rNeD K) (.bool m) (.bool n) (.bool (!(m == n))) := by
  have h := rv_neD (K := K) (x := .bool m) (y := .bool n) (shp_bool (n := 0)).sh (shp_bool (n := 0)).sh
  rw [eqv_bool] at h; exact h
/-- a list against [] -/
theorem eqv_nil {ds : List PyData} : PyData.eqv (.list ds) (.list []) = ds.isEmpty := by
  cases ds <;> simp [PyData.eqv, PyData.eqvAll]
theorem rv_eqNil (h : ∃ n, n ≤ 64 ∧ Shp n (.list ds)) : RvD (rEqD K) (.list ds) (.list []) (.bool ds.isEmpty) := by
  obtain ⟨n, hn, h⟩ := h
  have h := rv_eqD (K := K) (h.sh hn) (shp_list (n := 0) (ds := []) fun x hx => by cases hx).sh
  rw [eqv_nil] at h; exact h
theorem rv_neNil (h : ∃ n, n ≤ 64 ∧ Shp n (.list ds)) : RvD (rNeD K) (.list ds) (.list []) (.bool (!ds.isEmpty)) := by
  obtain ⟨n, hn, h⟩ := h
  have h := rv_neD (K := K) (h.sh hn) (shp_list (n := 0) (ds := []) fun x hx => by cases hx).sh
  rw [eqv_nil] at h; exact h

/-! isinstance -/
def isIntD : PyData → Bool | .int _ => true | .bool _ => true | _ => false
def isBoolD : PyData → Bool | .bool _ => true | _ => false
def isStrD : PyData → Bool | .str _ => true | _ => false
def isListD : PyData → Bool | .list _ => true | _ => false
def isTupD : PyData → Bool | .tuple _ => true | _ => false
def isDictD : PyData → Bool | .dict _ => true | _ => false
theorem k_Int (d : PyData) : kitB (tyNm d) "int" = some (isIntD d) := by
  cases d
  · exact (by decide +kernel : kitB "NoneType" "int" = some false)
  · exact (by decide +kernel : kitB "bool" "int" = some true)
  · exact (by decide +kernel : kitB "int" "int" = some true)
  · exact (by decide +kernel : kitB "str" "int" = some false)
  · exact (by decide +kernel : kitB "list" "int" = some false)
  · exact (by decide +kernel : kitB "tuple" "int" = some false)
  · exact (by decide +kernel : kitB "dict" "int" = some false)
theorem k_Bool (d : PyData) : kitB (tyNm d) "bool" = some (isBoolD d) := by
  cases d
  · exact (by decide +kernel : kitB "NoneType" "bool" = some false)
  · exact (by decide +kernel : kitB "bool" "bool" = some true)
  · exact (by decide +kernel : kitB "int" "bool" = some false)
  · exact (by decide +kernel : kitB "str" "bool" = some false)
  · exact (by decide +kernel : kitB "list" "bool" = some false)
  · exact (by decide +kernel : kitB "tuple" "bool" = some false)
  · exact (by decide +kernel : kitB "dict" "bool" = some false)
theorem k_Str (d : PyData) : kitB (tyNm d) "str" = some (isStrD d) := by
  cases d
  · exact (by decide +kernel : kitB "NoneType" "str" = some false)
  · exact (by decide +kernel : kitB "bool" "str" = some false)
  · exact (by decide +kernel : kitB "int" "str" = some false)
  · exact (by decide +kernel : kitB "str" "str" = some true)
  · exact (by decide +kernel : kitB "list" "str" = some false)
  · exact (by decide +kernel : kitB "tuple" "str" = some false)
  · exact (by decide +kernel : kitB "dict" "str" = some false)
theorem k_List (d : PyData) : kitB (tyNm d) "list" = some (isListD d) := by
  cases d
  · exact (by decide +kernel : kitB "NoneType" "list" = some false)
  · exact (by decide +kernel : kitB "bool" "list" = some false)
  · exact (by decide +kernel : kitB "int" "list" = some false)
  · exact (by decide +kernel : kitB "str" "list" = some false)
  · exact (by decide +kernel : kitB "list" "list" = some true)
  · exact (by decide +kernel : kitB "tuple" "list" = some false)
  · exact (by decide +kernel : kitB "dict" "list" = some false)
theorem k_Tup (d : PyData) : kitB (tyNm d) "tuple" = some (isTupD d) := by
  cases d
  · exact (by decide +kernel : kitB "NoneType" "tuple" = some false)
  · exact (by decide +kernel : kitB "bool" "tuple" = some false)
  · exact (by decide +kernel : kitB "int" "tuple" = some false)
  · exact (by decide +kernel : kitB "str" "tuple" = some false)
  · exact (by decide +kernel : kitB "list" "tuple" = some false)
  · exact (by decide +kernel : kitB "tuple" "tuple" = some true)
  · exact (by decide +kernel : kitB "dict" "tuple" = some false)
theorem k_Dict (d : PyData) : kitB (tyNm d) "dict" = some (isDictD d) := by
  cases d
  · exact (by decide +kernel : kitB "NoneType" "dict" = some false)
  · exact (by decide +kernel : kitB "bool" "dict" = some false)
  · exact (by decide +kernel : kitB "int" "dict" = some false)
  · exact (by decide +kernel : kitB "str" "dict" = some false)
  · exact (by decide +kernel : kitB "list" "dict" = some false)
  · exact (by decide +kernel : kitB "tuple" "dict" = some false)
  · exact (by decide +kernel : kitB "dict" "dict" = some true)
theorem ev_isiInt (h : Ev ta Γ d) : Ev (tCB (rIsi K) (tCons ta (tCons (tC (.ty "int")) tNil))) Γ (.bool (isIntD d)) := ev_isi h (k_Int d)
theorem ev_isiBool (h : Ev ta Γ d) : Ev (tCB (rIsi K) (tCons ta (tCons (tC (.ty "bool")) tNil))) Γ (.bool (isBoolD d)) := ev_isi h (k_Bool d)
theorem ev_isiStr (h : Ev ta Γ d) : Ev (tCB (rIsi K) (tCons ta (tCons (tC (.ty "str")) tNil))) Γ (.bool (isStrD d)) := ev_isi h (k_Str d)
theorem ev_isiList (h : Ev ta Γ d) : Ev (tCB (rIsi K) (tCons ta (tCons (tC (.ty "list")) tNil))) Γ (.bool (isListD d)) := ev_isi h (k_List d)
theorem ev_isiTup (h : Ev ta Γ d) : Ev (tCB (rIsi K) (tCons ta (tCons (tC (.ty "tuple")) tNil))) Γ (.bool (isTupD d)) := ev_isi h (k_Tup d)
theorem ev_isiDict (h : Ev ta Γ d) : Ev (tCB (rIsi K) (tCons ta (tCons (tC (.ty "dict")) tNil))) Γ (.bool (isDictD d)) := ev_isi h (k_Dict d)

/-! texts -/
def sg (c : Nat) : PyData := .str ⟨#[c]⟩
def signs (z : Str) : List PyData := z.cps.toList.map sg
theorem ei_str {z : Str} (h : Ev te Γ (.str z)) : EvI (iStr te) Γ (signs z) := fun B G σ H ok R q => h B G σ H ok _ fun v G1 H1 s1 r1 => by
  cases r1
  have hl : (signs z).length = z.cps.size := by simp [signs]
  refine ⟨z, rfl, q _ G1 H1 s1 ⟨fun H _ => ?_, fun i H hi _ => ?_, fun i H x H' d hd _ y => ?_⟩⟩
  · show z.cps.size ≤ _
    rw [hl]; exact Nat.le_refl _
  · show i < z.cps.size
    rw [hl] at hi; exact hi
  · obtain ⟨e1, c, hc, rfl⟩ := y
    unfold signs at hd
    rw [List.getElem?_map, Array.getElem?_toList, hc] at hd
    cases hd
    exact ⟨e1, .str _⟩
theorem rm_find {a c : Str} : RmD "str" (fun x xs H Q => ∃ a b, x = .str a ∧ xs = [.str b] ∧ Q (.int (Txt.find a b)) H) (.str a) [.str c] (.int (Txt.find a c)) := fun K G H v vs e rx => by
  cases rx
  refine ⟨fun _ _ => rfl, fun rv Q q => ?_⟩
  cases rv with
  | cons r1 r2 => cases r1; cases r2; exact ⟨a, c, rfl, rfl, q _ G H (Stp.rfl' e) (.int _)⟩
theorem rm_count {a c : Str} : RmD "str" (fun x xs H Q => ∃ a b, x = .str a ∧ xs = [.str b] ∧ Q (.int (Txt.count a b)) H) (.str a) [.str c] (.int (Txt.count a c)) := fun K G H v vs e rx => by
  cases rx
  refine ⟨fun _ _ => rfl, fun rv Q q => ?_⟩
  cases rv with
  | cons r1 r2 => cases r1; cases r2; exact ⟨a, c, rfl, rfl, q _ G H (Stp.rfl' e) (.int _)⟩
theorem rm_join {a : Str} {ys : List Str} (hz : (ys.map (·.length)).sum + ys.length * a.length ≤ 16777216) :
    RmD "str" (fun x xs H Q => ∃ a p, ∃ ys : List Str, x = .str a ∧ xs = [.ref p] ∧ (SqL K H p (ys.map V.str) ∨ SqT K H p (ys.map V.str)) ∧ (ys.map (·.length)).sum + ys.length * a.length ≤ 16777216 ∧ Q (.str (Txt.join a ys)) H) (.str a) [.list (ys.map .str)] (.str (Txt.join a ys)) := fun K' G H v vs e rx => by
  cases rx
  refine ⟨fun _ _ => rfl, fun rv Q q => ?_⟩
  cases rv with
  | cons r1 r2 =>
    cases r2
    cases r1 with
    | lst hd r =>
      have e1 := r.strs
      subst e1
      exact ⟨a, _, ys, rfl, rfl, .inl (rd_sql (e.rd hd)), hz, q _ G H (Stp.rfl' e) (.str _)⟩
end
/-! constants of the module -/
section
variable {X : Cx} {x : Str} {p : Pos}
theorem pe_gstr {z : Str} (h : ∃ t, X.mg x = some (.str z t)) (hg : Gl X x := by rfl) (hd : (x == ("__debug__" : Str)) = false := by decide) : PE X (.Name x p) (tC (.str z)) := by
  obtain ⟨t, h⟩ := h
  exact pe_glob hg h ⟨t, rfl⟩ hd
theorem pe_gint {z : Int} (h : ∃ t, X.mg x = some (.int z t)) (hg : Gl X x := by rfl) (hd : (x == ("__debug__" : Str)) = false := by decide) : PE X (.Name x p) (tC (.int z)) := by
  obtain ⟨t, h⟩ := h
  exact pe_glob hg h ⟨t, rfl⟩ hd
end
end Ck
namespace Ck
open PySem PySem.Spec PyProof.Rows L2
section
variable {Γ : List Sl} {te : TE} {t u : TT} {xs : List PyData} {b : Bool}
theorem ev_lst {t : TA} (h : EvA t Γ xs) (hl : xs.length ≤ sizeLine) : Ev (tLst t) Γ (.list xs) := (evN_lst h hl).ev
/-- a way that is not gone -/
theorem et_no (h : b = false) : b = true → EvT u Γ false := fun z => by rw [h] at z; cases z
theorem et_noO (h : b = true) : b = false → EvT u Γ true := fun z => by rw [h] at z; cases z
theorem ev_no (h : b = false) : b = true → Ev te Γ (.bool false) := fun z => by rw [h] at z; cases z
theorem ev_noO (h : b = true) : b = false → Ev te Γ (.bool true) := fun z => by rw [h] at z; cases z
end
theorem sz_dec {n : Nat} (h : n ≤ 100000) : n ≤ sizeLine := Nat.le_trans h (by decide)
end Ck
namespace Ck
open PySem PySem.Spec PyProof.Rows L2
theorem at_rt {B : Bs} {Γ : List Sl} {nx bk ct : L2.St → Hp → Prop} {rt : VK} {te : TE} {d d' : PyData} (h : Ev te Γ d) (e : d = d') (q : ∀ v G H, Stp B.g0 B.h0 G H → Rp G v d' → rt v H) : At B Γ (tRet te ⟨nx, rt, bk, ct⟩) := at_ret h (e ▸ q)
end Ck
namespace Ck
open PySem PySem.Spec PyProof.Rows L2
/-! the rules with the written part by its own letter (within a comprehension the reading may not lean on the block) -/
section
variable {X : Cx} (K : PySem.W.Frag)
theorem op_addK (hK : X.K = K := by rfl) : OpR X (binaryOp .Add) (rAddU K) := hK ▸ op_addU
theorem op_eqK (hu : X.A.units + 64 < cLine) (hK : X.K = K := by rfl) : OpR X (compareOp .Eq) (rEqD K) := hK ▸ op_eqD hu
theorem op_neK (hu : X.A.units + 64 < cLine) (hK : X.K = K := by rfl) : OpR X (compareOp .NotEq) (rNeD K) := hK ▸ op_neD hu
theorem op_inK (hu : X.A.units + 65 < cLine) (hK : X.K = K := by rfl) : OpR X (compareOp .In) (rInU K) := hK ▸ op_inU hu
theorem op_notInK (hu : X.A.units + 65 < cLine) (hK : X.K = K := by rfl) : OpR X (compareOp .NotIn) (rNotInU K) := hK ▸ op_notInU hu
theorem ix_K (hK : X.K = K := by rfl) : IxR X (rIx K) := hK ▸ ix_seq
theorem sl_K (hK : X.K = K := by rfl) : SlR X (rSlU K) := hK ▸ sl_U
theorem isi_K (hK : X.K = K := by rfl) : CallR X (.builtin "isinstance") (rIsi K) := hK ▸ call_isi
theorem len_K (hK : X.K = K := by rfl) : CallR X (.builtin "len") (rLenV K) := hK ▸ call_lenV
theorem list_K (hK : X.K = K := by rfl) : CallR X (.type "list") (rListV K) := hK ▸ call_listV
theorem sum_K (hc : X.calm = true) (hK : X.K = K := by rfl) : CallR X (.builtin "sum") (rSum K) := hK ▸ cr_sum hc
theorem max_K (hc : X.calm = true) (hK : X.K = K := by rfl) : CallR X (.builtin "max") (rMax K) := hK ▸ cr_max hc
theorem all_K (hc : X.calm = true) (hK : X.K = K := by rfl) : CallR X (.builtin "all") (rAll K) := hK ▸ cr_all hc
theorem sorted_K (hK : X.K = K := by rfl) : CallR X (.builtin "sorted") (rSorted K) := hK ▸ cr_sorted
theorem pi_listK {tg l : Expr} {tl : TE} (hl : PE X l tl) (hK : X.K = K := by rfl) : PI X tg l (iList K tl) := hK ▸ pi_list hl
theorem pi_tupK {tg l : Expr} {tl : TE} (hl : PE X l tl) (hK : X.K = K := by rfl) : PI X tg l (iTup K tl) := hK ▸ pi_tup hl
theorem pe_revLK {e : Expr} {te : TE} {k : Nat} {p1 p2 p3 pos : Pos} (he : PE X e te) (hK : X.K = K := by rfl) : PE X (.Subscript e (.Slice none none (some (.UnaryOp .USub (.Constant (.int 1) k p1) p2)) p3) pos) (tRevL K te) := hK ▸ pe_revL he
theorem pe_bmK {o e : Expr} {es : List Expr} {to : TE} {t : TA} {name : Str} {apos cpos : Pos} {T id : String} {r : V → List V → Hp → VK → Prop} (pa : PlainAttrs T) (slot : Slot T name id) (hty : typeOf (.builtin id) = pure (.type "method_descriptor")) (hm : MtR X id r) (ho : PE X o to) (ha : PA X (e :: es) t)
    (hK : X.K = K := by rfl) (hbase : attributeBase o name X.env (eval o X.env) = eval o X.env := by rfl)
    (hfew : ((backTo cpos (starEach (e :: es) X.env)).all (fun x => !x.1) && (backToKw cpos (keywordEach [] X.env)).all (fun x => x.1.isSome)
      && decide ((e :: es).length + ([] : List Keyword).length + (if ([] : List Keyword).isEmpty then 0 else 1) < 30)) = true := by rfl)
    (hline : (apos.endLine == cpos.line) = true := by rfl) (hs : starEach (e :: es) X.env = (false, eval e X.env) :: starEach es X.env := by rfl) (hplain : (backTo cpos (starEach es X.env)).any (·.1) = false := by rfl) :
    PE X (.Call (.Attribute o name apos) (e :: es) [] cpos) (tBM K T r to t) := hK ▸ pe_bm pa slot hty hm ho ha hbase hfew hline hs hplain
end
def rJoin (K : PySem.W.Frag) : V → List V → Hp → VK → Prop := fun x xs H Q => ∃ a p, ∃ ys : List Str, x = .str a ∧ xs = [.ref p] ∧ (SqL K H p (ys.map V.str) ∨ SqT K H p (ys.map V.str)) ∧ (ys.map (·.length)).sum + ys.length * a.length ≤ 16777216 ∧ Q (.str (Txt.join a ys)) H
def rFind : V → List V → Hp → VK → Prop := fun x xs H Q => ∃ a b, x = .str a ∧ xs = [.str b] ∧ Q (.int (Txt.find a b)) H
def rCount : V → List V → Hp → VK → Prop := fun x xs H Q => ∃ a b, x = .str a ∧ xs = [.str b] ∧ Q (.int (Txt.count a b)) H
section
variable {X : Cx} (K : PySem.W.Frag)
theorem mt_joinK (hK : X.K = K := by rfl) : MtR X "str.join" (rJoin K) := hK ▸ mt_join
theorem mt_findK : MtR X "str.find" rFind := mt_find
theorem mt_countK : MtR X "str.count" rCount := mt_count
theorem rm_findK {a c : Str} : RmD "str" rFind (.str a) [.str c] (.int (Txt.find a c)) := rm_find
theorem rm_countK {a c : Str} : RmD "str" rCount (.str a) [.str c] (.int (Txt.count a c)) := rm_count
theorem rm_joinK {a : Str} {ys : List Str} (hz : (ys.map (·.length)).sum + ys.length * a.length ≤ 16777216) : RmD "str" (rJoin K) (.str a) [.list (ys.map .str)] (.str (Txt.join a ys)) := rm_join hz
end
end Ck
namespace Ck
open PySem PySem.Spec PyProof.Rows L2
section
variable {K : PySem.W.Frag} {Γ : List Sl} {ta : TE} {d : PyData} {b : Bool}
theorem ev_isiIntB (h : Ev ta Γ d) (e : isIntD d = b) : Ev (tCB (rIsi K) (tCons ta (tCons (tC (.ty "int")) tNil))) Γ (.bool b) := e ▸ ev_isiInt h
theorem ev_isiBoolB (h : Ev ta Γ d) (e : isBoolD d = b) : Ev (tCB (rIsi K) (tCons ta (tCons (tC (.ty "bool")) tNil))) Γ (.bool b) := e ▸ ev_isiBool h
theorem ev_isiStrB (h : Ev ta Γ d) (e : isStrD d = b) : Ev (tCB (rIsi K) (tCons ta (tCons (tC (.ty "str")) tNil))) Γ (.bool b) := e ▸ ev_isiStr h
theorem ev_isiListB (h : Ev ta Γ d) (e : isListD d = b) : Ev (tCB (rIsi K) (tCons ta (tCons (tC (.ty "list")) tNil))) Γ (.bool b) := e ▸ ev_isiList h
theorem ev_isiTupB (h : Ev ta Γ d) (e : isTupD d = b) : Ev (tCB (rIsi K) (tCons ta (tCons (tC (.ty "tuple")) tNil))) Γ (.bool b) := e ▸ ev_isiTup h
theorem ev_isiDictB (h : Ev ta Γ d) (e : isDictD d = b) : Ev (tCB (rIsi K) (tCons ta (tCons (tC (.ty "dict")) tNil))) Γ (.bool b) := e ▸ ev_isiDict h
end
end Ck
namespace Ck
open PySem PySem.Spec PyProof.Rows L2
/-- over a range, the state by the turn -/
theorem at_forR {B : Bs} {Γ : List Sl} {nx bk ct : L2.St → Hp → Prop} {rt : VK} {t : TS} {j : Nat} {wi : TI} {lo : Int} {n : Nat} (I : Nat → List Sl) (hi : EvI wi Γ (rngD lo n)) (h0 : Wk (I 0) Γ)
    (hs : ∀ (gb : Hp) (i : Nat) (N : L2.St → Hp → Prop), i < n → At ⟨gb, B.g0, B.h0⟩ (I (i + 1)) N → At ⟨gb, B.g0, B.h0⟩ ((I i).set j (.d (.int (lo + i)))) (t ⟨N, rt, nx, N⟩))
    (he : At B (I n) nx) : At B Γ (tFor wi (gName j) t ⟨nx, rt, bk, ct⟩) := by
  exact at_for I (fun i => i ≤ n) hi h0 (Nat.zero_le _) (fun gb i d N hd hp hN => by
    have hl : i < n := by
      have := (List.getElem?_eq_some_iff.mp hd).1
      rw [rngD_length] at this; exact this
    rw [rngD_get lo n i hl] at hd
    cases hd
    exact hs gb i N hl (hN hl)) (fun _ => by rw [rngD_length]; exact he)
/-- over a list of encoded things -/
theorem at_forL {α : Type} (enc : α → PyData) (xs : List α) {B : Bs} {Γ : List Sl} {nx bk ct : L2.St → Hp → Prop} {rt : VK} {t : TS} {j : Nat} {wi : TI} (I : Nat → List Sl) (hi : EvI wi Γ (xs.map enc)) (h0 : Wk (I 0) Γ)
    (hs : ∀ (gb : Hp) (i : Nat) (x : α) (N : L2.St → Hp → Prop), xs[i]? = some x → At ⟨gb, B.g0, B.h0⟩ (I (i + 1)) N → At ⟨gb, B.g0, B.h0⟩ ((I i).set j (.d (enc x))) (t ⟨N, rt, nx, N⟩))
    (he : At B (I xs.length) nx) : At B Γ (tFor wi (gName j) t ⟨nx, rt, bk, ct⟩) :=
  at_for I (fun _ => True) hi h0 trivial (fun gb i d N hd _ hN => by
    rw [List.getElem?_map] at hd
    cases hx : xs[i]? with
    | none => rw [hx] at hd; cases hd
    | some x =>
      rw [hx] at hd
      cases hd
      exact hs gb i x N hx (hN trivial)) (fun _ => by rw [List.length_map]; exact he)
end Ck
namespace Ck
open PySem PySem.Spec PyProof.Rows L2
theorem ev_head {sp : Sp} {dvs : List V} {E : XK} {t : TA} {Γ : List Sl} {d : PyData} (h : Ev (tCall sp dvs E t) Γ d) : Ev (tCall sp dvs E t) Γ d := h
end Ck

namespace Ck
open PySem PySem.Spec PyProof.Rows L2
section
variable {Γ : List Sl} {ta tb tc : TE} {E : XK} {x y : PyData}
/-! ### is_number, is_key, is_deed -/
def isNumD (x : PyData) : Bool := isIntD x && !isBoolD x
def R_is_number (ds : List PyData) (d : PyData) : Prop := ∃ x, ds = [x] ∧ d = .bool (isNumD x)
theorem ev_is_number (h : Ev ta Γ x) : Ev (tCall (spP 1 R_is_number) [] E (tCons ta tNil)) Γ (.bool (isNumD x)) := ev_call (ea_cons h ea_nil) rfl ⟨x, rfl, rfl⟩
abbrev LETTERS : Str := "abcdefghijklmnopqrstuvwxyz"
theorem letters_list : LETTERS.cps.toList = List.range' 97 26 := by decide +kernel
theorem letters_mem (c : Nat) : c ∈ LETTERS.cps.toList ↔ 97 ≤ c ∧ c < 123 := by rw [letters_list, List.mem_range'_1]
def lowD (z : Str) : Bool := z.cps.toList.all fun c => decide (c ∈ LETTERS.cps.toList)
def isKeyS (z : Str) : Bool := decide (1 ≤ z.length) && (decide (z.length ≤ 8) && lowD z)
def isKeyD : PyData → Bool
  | .str z => isKeyS z
  | _ => false
/-- texts of a moderate size -/
def SzS : PyData → Prop
  | .str z => z.length ≤ 100000
  | _ => True
def R_is_key (ds : List PyData) (d : PyData) : Prop := ∃ x, ds = [x] ∧ SzS x ∧ d = .bool (isKeyD x)
theorem ev_is_key (h : Ev ta Γ x) (hs : SzS x) : Ev (tCall (spP 1 R_is_key) [] E (tCons ta tNil)) Γ (.bool (isKeyD x)) := ev_call (ea_cons h ea_nil) rfl ⟨x, rfl, hs, rfl⟩
theorem ev_is_numberB {b : Bool} (h : Ev ta Γ x) (e : isNumD x = b) : Ev (tCall (spP 1 R_is_number) [] E (tCons ta tNil)) Γ (.bool b) := e ▸ ev_is_number h
theorem ev_is_keyB {b : Bool} (h : Ev ta Γ x) (hs : SzS x) (e : isKeyD x = b) : Ev (tCall (spP 1 R_is_key) [] E (tCons ta tNil)) Γ (.bool b) := e ▸ ev_is_key h hs
theorem num_or (x : PyData) : (∃ i, x = .int i) ∨ isNumD x = false := by
  cases x with
  | int i => exact .inl ⟨i, rfl⟩
  | _ => exact .inr rfl
theorem str_or (x : PyData) : (∃ z, x = .str z) ∨ isStrD x = false := by
  cases x with
  | str z => exact .inl ⟨z, rfl⟩
  | _ => exact .inr rfl
def StrOkD : PyData → Prop
  | .str z => PyData.strOk z = true
  | _ => True
abbrev wPut : Str := "put"
abbrev wAdd : Str := "add"
abbrev wOnce : Str := "once"
abbrev wAway : Str := "away"
def isWordS (w : Str) (v : Int) : Bool := (w == wPut || (w == wAdd || w == wOnce)) || (decide (w = wAway) && decide (v = 0))
def isDeed5 : PyData → PyData → PyData → PyData → PyData → Bool
  | .int a, .int t, .str w, k, .int v => decide (0 ≤ a) && decide (a ≤ 9) && decide (1 ≤ t) && isKeyD k && isWordS w v
  | _, _, _, _, _ => false
def isDeedD : PyData → Bool
  | .tuple [a, t, w, k, v] => isDeed5 a t w k v
  | _ => false
/-- of what may be asked whether it is a deed: no long texts, no odd signs -/
def DeedSz : PyData → Prop
  | .tuple ds => ∀ x ∈ ds, SzS x ∧ StrOkD x
  | _ => True
def R_is_deed (ds : List PyData) (d : PyData) : Prop := ∃ x, ds = [x] ∧ DeedSz x ∧ d = .bool (isDeedD x)
theorem ev_is_deed (h : Ev ta Γ x) (hs : DeedSz x) : Ev (tCall (spP 1 R_is_deed) [] E (tCons ta tNil)) Γ (.bool (isDeedD x)) := ev_call (ea_cons h ea_nil) rfl ⟨x, rfl, hs, rfl⟩
theorem ev_is_deedB {b : Bool} (h : Ev ta Γ x) (hs : DeedSz x) (e : isDeedD x = b) : Ev (tCall (spP 1 R_is_deed) [] E (tCons ta tNil)) Γ (.bool b) := e ▸ ev_is_deed h hs
theorem tup_or (x : PyData) : (∃ a t w k v, x = .tuple [a, t, w, k, v]) ∨ (∃ ds, x = .tuple ds ∧ ds.length ≠ 5) ∨ isTupD x = false := by
  cases x with
  | tuple ds =>
    by_cases h : ds.length = 5
    · match ds, h with
      | [a, t, w, k, v], _ => exact .inl ⟨a, t, w, k, v, rfl⟩
    · exact .inr (.inl ⟨ds, rfl, h⟩)
  | _ => exact .inr (.inr rfl)
theorem isDeed_len {ds : List PyData} (h : ds.length ≠ 5) : isDeedD (.tuple ds) = false := by
  unfold isDeedD
  split
  · rename_i e; cases e; exact absurd rfl h
  · rfl
theorem isDeed_tup {x : PyData} (h : isTupD x = false) : isDeedD x = false := by
  cases x with
  | tuple ds => cases h
  | _ => rfl
theorem isDeed5_a {a t w k v : PyData} (h : isNumD a = false) : isDeed5 a t w k v = false := by
  cases a with
  | int i => cases h
  | _ => rfl
theorem isDeed5_t {a t w k v : PyData} (h : isNumD t = false) : isDeed5 a t w k v = false := by
  cases t with
  | int i => cases h
  | _ => cases a <;> rfl
theorem isDeed5_v {a t w k v : PyData} (h : isNumD v = false) : isDeed5 a t w k v = false := by
  cases v with
  | int i => cases h
  | _ => cases a <;> cases t <;> cases w <;> rfl
theorem isDeed5_w {a t w k v : PyData} (h : isStrD w = false) : isDeed5 a t w k v = false := by
  cases w with
  | str i => cases h
  | _ => cases a <;> cases t <;> rfl
theorem isDeed5_no {ai ti : Int} {w k v : PyData} (h : ai < 0 ∨ 9 < ai ∨ ti < 1) : isDeed5 (.int ai) (.int ti) w k v = false := by
  cases w <;> cases v <;> try rfl
  show (decide (0 ≤ ai) && decide (ai ≤ 9) && decide (1 ≤ ti) && isKeyD k && isWordS _ _) = false
  rcases h with h | h | h
  · rw [decide_eq_false (p := 0 ≤ ai) (by omega)]; rfl
  · rw [decide_eq_false (p := ai ≤ 9) (by omega), Bool.and_false]; rfl
  · rw [decide_eq_false (p := 1 ≤ ti) (by omega), Bool.and_false]; rfl
theorem isDeed5_k {a t v : PyData} {ws : Str} {k : PyData} (h : isKeyD k = false) : isDeed5 a t (.str ws) k v = false := by
  cases a <;> cases t <;> cases v <;> try rfl
  show (_ && isKeyD k && isWordS _ _) = false
  rw [h, Bool.and_false]; rfl
theorem isDeed5_w1 {ai ti vi : Int} {ws : Str} {k : PyData} (h : ¬ ai < 0 ∧ ¬ 9 < ai ∧ ¬ ti < 1) (hk : isKeyD k = true) : isDeed5 (.int ai) (.int ti) (.str ws) k (.int vi) = isWordS ws vi := by
  show (decide (0 ≤ ai) && decide (ai ≤ 9) && decide (1 ≤ ti) && isKeyD k && isWordS _ _) = _
  rw [hk, decide_eq_true (p := 0 ≤ ai) (by omega), decide_eq_true (p := ai ≤ 9) (by omega), decide_eq_true (p := 1 ≤ ti) (by omega)]
  rfl
theorem isWordS_eq (w : Str) (v : Int) : (([PyData.str wPut, .str wAdd, .str wOnce].any fun y => eqS y (.str w)) || (decide (w = wAway) && decide (v = 0))) = isWordS w v := by
  unfold isWordS
  simp only [List.any_cons, List.any_nil, Bool.or_false, eqS]
  have e : ∀ z : Str, (z == w) = (w == z) := fun z => by
    by_cases h : z = w
    · subst h; rfl
    · rw [beq_eq_false_iff_ne.mpr h, beq_eq_false_iff_ne.mpr (Ne.symm h)]
  rw [e, e, e]
end
end Ck

namespace Ck
open PySem PySem.Spec PyProof.Rows L2
section
variable {Γ : List Sl} {ta tb tc : TE} {E : XK} {x y : PyData}
/-! ### the script's cells, the mixing -/
abbrev scr (ns : List Int) : PyData := .list (ns.map PyData.int)
def cellAt (ns : List Int) (k : Int) : Int := ns.getD k.toNat 0
def R_cell_at (ds : List PyData) (d : PyData) : Prop := ∃ (ns : List Int) (k : Int), ds = [scr ns, .int k] ∧ 0 ≤ k ∧ d = .int (cellAt ns k)
theorem ev_cell_at {ns : List Int} {k : Int} (h : Ev ta Γ (scr ns)) (hk : Ev tb Γ (.int k)) (h0 : 0 ≤ k) : Ev (tCall (spP 2 R_cell_at) [] E (tCons ta (tCons tb tNil))) Γ (.int (cellAt ns k)) :=
  ev_call (ea_cons h (ea_cons hk ea_nil)) rfl ⟨ns, k, rfl, h0, rfl⟩
def mix1 (c k : Int) : Int := (c * 48271 + k * 7919 + 1) % 1000003
def mixed (c k : Int) : Int := mix1 c k * (mix1 c k + 2 * k + 5) % 999983
theorem mix1_lo (c k : Int) : 0 ≤ mix1 c k := Int.emod_nonneg _ (by decide)
theorem mix1_hi (c k : Int) : mix1 c k < 1000003 := Int.emod_lt_of_pos _ (by decide)
theorem mixed_lo (c k : Int) : 0 ≤ mixed c k := Int.emod_nonneg _ (by decide)
theorem mixed_hi (c k : Int) : mixed c k < 999983 := Int.emod_lt_of_pos _ (by decide)
def R_mixed (ds : List PyData) (d : PyData) : Prop := ∃ c k, ds = [.int c, .int k] ∧ d = .int (mixed c k)
theorem ev_mixed {c k : Int} (h : Ev ta Γ (.int c)) (hk : Ev tb Γ (.int k)) : Ev (tCall (spP 2 R_mixed) [] E (tCons ta (tCons tb tNil))) Γ (.int (mixed c k)) :=
  ev_call (ea_cons h (ea_cons hk ea_nil)) rfl ⟨c, k, rfl, rfl⟩
/-! ### atI -/
theorem ixN_of {n i : Nat} (h : i < n) : ixN n (i : Int) = some i := by
  unfold ixN
  rw [if_pos (by omega), if_pos (by omega)]; simp
theorem atI_of {α : Type} {xs : List α} {i : Nat} {x : α} (h : xs[i]? = some x) : atI xs (i : Int) = some x := by
  unfold atI
  rw [ixN_of (List.getElem?_eq_some_iff.mp h).1]
  exact h
theorem atI_int {α : Type} {xs : List α} {i : Int} {x : α} (h0 : 0 ≤ i) (h : xs[i.toNat]? = some x) : atI xs i = some x := by
  have := atI_of h
  rw [Int.toNat_of_nonneg h0] at this
  exact this
theorem ixN_int {n : Nat} {i : Int} (h0 : 0 ≤ i) (h : i < n) : ixN n i = some i.toNat := by
  unfold ixN
  rw [if_pos h0, if_pos h]
theorem atI_map {α β : Type} {f : α → β} {xs : List α} {i : Int} {x : α} (h : atI xs i = some x) : atI (xs.map f) i = some (f x) := by
  unfold atI at h ⊢
  rw [List.length_map]
  obtain ⟨j, hj, hx⟩ := Option.bind_eq_some_iff.mp h
  rw [hj]
  show (xs.map f)[j]? = _
  rw [List.getElem?_map, hx]; rfl
theorem atI_neg1 {α : Type} {xs : List α} {x : α} (h : xs.getLast? = some x) : atI xs (-1) = some x := by
  cases xs with
  | nil => cases h
  | cons a r =>
    unfold atI ixN
    rw [if_neg (by decide), if_pos (by simp; omega)]
    show (a :: r)[(-1 + ((a :: r).length : Int)).toNat]? = _
    rw [show (-1 + ((a :: r).length : Int)).toNat = (a :: r).length - 1 by (simp only [List.length_cons]; omega), ← List.getLast?_eq_getElem?]
    exact h
theorem cellAt_get {ns : List Int} {k : Int} (h : k.toNat < ns.length) : ns[k.toNat]? = some (cellAt ns k) := by
  unfold cellAt
  rw [List.getD_eq_getElem?_getD, List.getElem?_eq_getElem h]; rfl
theorem cellAt_no {ns : List Int} {k : Int} (h : ¬ k.toNat < ns.length) : cellAt ns k = 0 := by
  unfold cellAt
  rw [List.getD_eq_getElem?_getD, List.getElem?_eq_none (by omega)]; rfl
/-! ### one sign counted -/
theorem count_in : ∀ c ∈ List.range' 97 26, Txt.count LETTERS ⟨#[c]⟩ = 1 := by decide +kernel
theorem count_out {c : Nat} (h : c ∉ LETTERS.cps.toList) : Txt.count LETTERS ⟨#[c]⟩ = 0 := by
  obtain ⟨f, hc⟩ := PySem.StrLaws.occ_chain LETTERS ⟨#[c]⟩ (LETTERS.length + 1)
  unfold Txt.count
  cases e : Builtin.Str.occurrences LETTERS ⟨#[c]⟩ 0 LETTERS.length (LETTERS.length + 1) with
  | nil => rfl
  | cons i r =>
    exfalso
    rw [e] at hc
    have hf := PySem.StrLaws.found_one LETTERS c
    have hn : (!(Builtin.Str.occurrences LETTERS ⟨#[c]⟩ 0 LETTERS.length 1).isEmpty) = true := by
      rw [PySem.StrLaws.found_iff]
      exact ⟨i, hc.2.1⟩
    rw [hn] at hf
    exact h (of_decide_eq_true hf.symm)
theorem count_eq (c : Nat) : decide (Txt.count LETTERS ⟨#[c]⟩ = 1) = decide (c ∈ LETTERS.cps.toList) := by
  by_cases h : c ∈ LETTERS.cps.toList
  · rw [decide_eq_true h]
    rw [letters_list] at h
    rw [count_in c h]; rfl
  · rw [decide_eq_false h, count_out h]; rfl
/-! ### picking from a written list -/
theorem pick {xs : List PyData} {i : Int} (h0 : 0 ≤ i) (h : i < xs.length) : ∃ x, x ∈ xs ∧ atI xs i = some x := by
  have hl : i.toNat < xs.length := by omega
  exact ⟨xs[i.toNat], List.getElem_mem hl, atI_int h0 (List.getElem?_eq_getElem hl)⟩
theorem pickS {z : Str} {i : Int} (h0 : 0 ≤ i) (h : i < z.length) : ∃ c, c ∈ z.cps.toList ∧ atI z.cps.toList i = some c := by
  have hl : i.toNat < z.cps.toList.length := by simp [Str.length] at h ⊢; omega
  exact ⟨z.cps.toList[i.toNat], List.getElem_mem hl, atI_int h0 (List.getElem?_eq_getElem hl)⟩
theorem strOk_app {a b : Str} (ha : PyData.strOk a = true) (hb : PyData.strOk b = true) : PyData.strOk (a ++ b) = true := by
  unfold PyData.strOk at *
  rw [PySem.Str.cps_append, Array.all_append, ha, hb]; rfl
theorem strOk_one {c : Nat} (h : c < 0x110000) : PyData.strOk ⟨#[c]⟩ = true := by
  unfold PyData.strOk
  simp [h]
theorem strOk_mem {z : Str} (h : PyData.strOk z = true) {c : Nat} (hc : c ∈ z.cps.toList) : c < 0x110000 := by
  unfold PyData.strOk at h
  rw [Array.all_eq_true_iff_forall_mem] at h
  have := h c (by simpa using hc)
  simpa using this
theorem cutG_take {α : Type} {xs : List α} {i : Int} (h0 : 0 ≤ i) (h : i ≤ xs.length) : cutG xs none (some i) = xs.take i.toNat := by
  obtain ⟨k, rfl⟩ := Int.eq_ofNat_of_zero_le h0
  have h' : k ≤ xs.length := by omega
  unfold cutG
  rw [HT.sIx_none, HT.sIx_nat, List.drop_zero, Nat.sub_zero, Nat.min_eq_left h']; simp
theorem cutG_drop {α : Type} {xs : List α} {i : Int} (h0 : 0 ≤ i) (h : i ≤ xs.length) : cutG xs (some i) none = xs.drop i.toNat := by
  obtain ⟨k, rfl⟩ := Int.eq_ofNat_of_zero_le h0
  have h' : k ≤ xs.length := by omega
  unfold cutG
  rw [HT.sIx_none, HT.sIx_nat, Nat.min_eq_left h', Int.toNat_natCast]
  exact List.take_of_length_le (by rw [List.length_drop]; exact Nat.le_refl _)
theorem cutG_mid {α : Type} {xs : List α} {i j : Int} (h0 : 0 ≤ i) (h1 : 0 ≤ j) : cutG xs (some i) (some j) = (xs.take j.toNat).drop i.toNat := by
  obtain ⟨k, rfl⟩ := Int.eq_ofNat_of_zero_le h0
  obtain ⟨l, rfl⟩ := Int.eq_ofNat_of_zero_le h1
  unfold cutG
  rw [HT.sIx_nat, HT.sIx_nat, Int.toNat_natCast, Int.toNat_natCast, ← List.drop_take]
  have e1 : xs.take (min l xs.length) = xs.take l := by
    by_cases hl : l ≤ xs.length
    · rw [Nat.min_eq_left hl]
    · rw [Nat.min_eq_right (by omega), List.take_length, List.take_of_length_le (by omega)]
  rw [e1]
  by_cases hk : k ≤ xs.length
  · rw [Nat.min_eq_left hk]
  · have hlen : (xs.take l).length ≤ xs.length := by rw [List.length_take]; omega
    rw [Nat.min_eq_right (by omega), List.drop_eq_nil_of_le hlen, List.drop_eq_nil_of_le (by omega)]
end
end Ck

namespace Ck
open PySem PySem.Spec PyProof.Rows L2

/-! ### outcomes: a value, or the name of a class -/
abbrev Oc := Except Str PyData
abbrev RtO (B : Bs) (Q : VK) (d : PyData) : Prop := ∀ v f G H, Stp B.g0 B.h0 G H → Ro G H v d f → f.Nodup → (∀ a ∈ f, B.h0 a = none ∧ G a = none) → Q v H
abbrev WK := Bs → VK → PyData → Prop
def OcW (W : WK) (K : PySem.W.Frag) (B : Bs) (Q : VK) (E : XK) : Oc → Prop
  | .ok d => W B Q d
  | .error c => ∀ G H, Stp B.g0 B.h0 G H → E (.ref (He.ga K c)) none H
def spW (W : WK) (K : PySem.W.Frag) (n : Nat) (R : List PyData → Oc → Prop) : Sp := fun vs H Q E => ∃ ds o G, Ex G H ∧ Rps G vs ds ∧ ds.length = n ∧ R ds o ∧ OcW W K ⟨G, G, H⟩ Q E o
abbrev WD : WK := RtOk
abbrev WO : WK := RtO
theorem spW_len {W : WK} {K : PySem.W.Frag} {n : Nat} {R : List PyData → Oc → Prop} {vs : List V} {H : Hp} {Q : VK} {E : XK} (h : spW W K n R vs H Q E) : vs.length = n := by
  obtain ⟨ds, d, G, _, r, l, _⟩ := h
  rw [r.length]; exact l
abbrev BodyW (W : WK) (K : PySem.W.Frag) (N n : Nat) (R : List PyData → Oc → Prop) (E : XK) (t : TS) : Prop := ∀ (ds : List PyData) (o : Oc) (B : Bs) (Q : VK), ds.length = n → R ds o → OcW W K B Q E o → At B (sls N ds) (t { nx := fun _ H' => Q .non H', rt := Q })
section
variable {P : Program} {w : World} {K : PySem.W.Frag} {mg : Str → Option Value} {base : Heap} {x : Str} {st : Stmt} {N ps : List Str} {k n : Nat} {W : WK} {R : List PyData → Oc → Prop}
/-- a def that may raise -/
theorem mkX (h : Has K mg x st) (hb : BindsP x st ps) (S : FnScope N ps (defScope st)) (hn : ps.length = n)
    (hbody : ∀ (f : Addr) (cdv : Value) (A : Around) (outer : List Env) (s : Shared) (H : Hp) (E : XK), Room k (A.deeper (envOfC x (defScope st) s.heap.objs.size f cdv)) →
      ∃ t, PSs (cxOf (L2.CX P w) P w K mg base N x (defScope st) f cdv A outer s H E) (defBody st) t ∧ BodyW W K N.length n R E t) : Def P w K mg base (L2.CX P w) (k + 1) x ps (spW W K n R) :=
  mk_def h hb S (fun vs H Q E z => (spW_len z).trans hn.symm) fun f cdv A outer s H vs Q E hr hsp => by
    obtain ⟨t, h1, h2⟩ := hbody f cdv A outer s H E hr
    obtain ⟨ds, o, G, e, r, l, hR, q⟩ := hsp
    exact ⟨t, h1, h2 ds o ⟨G, G, H⟩ Q l hR q G _ H (ok_start e r)⟩
/-- .. that does not -/
theorem mkW (h : Has K mg x st) (hb : BindsP x st ps) (S : FnScope N ps (defScope st)) (hn : ps.length = n)
    (hbody : ∀ (f : Addr) (cdv : Value) (A : Around) (outer : List Env) (s : Shared) (H : Hp) (E : XK), Room k (A.deeper (envOfC x (defScope st) s.heap.objs.size f cdv)) →
      ∃ t, PSs (cxOf CX0 P w K mg base N x (defScope st) f cdv A outer s H E).nox (defBody st) t ∧ BodyW W K N.length n R E t) : Def P w K mg base CX0 (k + 1) x ps (spW W K n R) :=
  mk_def h hb S (fun vs H Q E z => (spW_len z).trans hn.symm) fun f cdv A outer s H vs Q E hr hsp => by
    obtain ⟨t, h1, h2⟩ := hbody f cdv A outer s H E hr
    obtain ⟨ds, o, G, e, r, l, hR, q⟩ := hsp
    exact ⟨t, h1.nox, h2 ds o ⟨G, G, H⟩ Q l hR q G _ H (ok_start e r)⟩
/-- one that is not called -/
theorem mkF {CX : CXT} (h : Has K mg x st) (hb : BindsP x st ps) (S : FnScope N ps (defScope st)) : Def P w K mg base CX (k + 1) x ps (fun _ _ _ _ => False) :=
  mk_def h hb S (fun vs H Q E z => z.elim) fun f cdv A outer s H vs Q E hr hsp => hsp.elim
end

section
variable {K : PySem.W.Frag} {B : Bs} {Γ : List Sl} {nx bk ct : L2.St → Hp → Prop} {rt : VK} {t u : TS} {te : TE} {ta : TA} {tt : TT} {d : PyData} {ds : List PyData} {i j n : Nat} {R : List PyData → Oc → Prop} {E : XK} {W : WK} {c : Str} {S : List Nat} {D : Ends} {k : L2.St → Hp → Prop}
/-- what leaves the def -/
abbrev Xq (K : PySem.W.Frag) (B : Bs) (E : XK) (c : Str) : Prop := ∀ G H, Stp B.g0 B.h0 G H → E (.ref (He.ga K c)) none H
theorem ev_callW (h : EvA ta Γ ds) (hn : ds.length = n) (hR : R ds (.ok d)) : Ev (tCall (spW WD K n R) [] E ta) Γ d := fun B G σ H ok Q q =>
  h B G σ H ok _ fun vs G1 H1 s1 r1 => by
    rw [List.append_nil]
    exact ⟨ds, .ok d, G1, s1.gh, r1, hn, hR, fun v G' H' s r => q v G' H' (s1.tr s) r⟩
theorem em_callW (h : EvA ta Γ ds) (hn : ds.length = n) (hR : R ds (.ok d)) : EvM (tCall (spW WO K n R) [] E ta) Γ [] d := fun B G σ H F k Q q =>
  h B G σ H ⟨F, k⟩ _ fun vs G1 H1 s1 r1 => by
    rw [List.append_nil]
    exact ⟨ds, .ok d, G1, s1.gh, r1, hn, hR, fun v f G' H' s r nd m => q v f G' H' (s1.tr s) r nd fun a ha => ⟨(m a ha).2, .inl (s1.h.no (m a ha).1)⟩⟩
theorem ev_callWS {Wx : WX} (h : EvA ta Γ ds) (hn : ds.length = n) (hR : R ds (.ok d)) : Ev (tCallS (spW WD K n R) (WE Wx) ta) Γ d := fun B G σ H ok Q q =>
  h B G σ H ok _ fun vs G1 H1 s1 r1 => ⟨ds, .ok d, G1, s1.gh, r1, hn, hR, fun v G' H' s r => q v G' H' (s1.tr s) r⟩
theorem em_callWS {Wx : WX} (h : EvA ta Γ ds) (hn : ds.length = n) (hR : R ds (.ok d)) : EvM (tCallS (spW WO K n R) (WE Wx) ta) Γ [] d := fun B G σ H F k Q q =>
  h B G σ H ⟨F, k⟩ _ fun vs G1 H1 s1 r1 => ⟨ds, .ok d, G1, s1.gh, r1, hn, hR, fun v f G' H' s r nd m => q v f G' H' (s1.tr s) r nd fun a ha => ⟨(m a ha).2, .inl (s1.h.no (m a ha).1)⟩⟩
/-- an expression that raises -/
def Rz (te : TE) (Γ : List Sl) (X : L2.St → Hp → Prop) : Prop := ∀ (B : Bs) (G : Hp) (σ : L2.St) (H : Hp), Ok B G σ H Γ → (∀ G' H', Stp G H G' H' → X σ H') → ∀ Q, te σ H Q
theorem rz_callW (h : EvA ta Γ ds) (hn : ds.length = n) (hR : R ds (.error c)) : Rz (tCall (spW W K n R) [] E ta) Γ (fun _ H => E (.ref (He.ga K c)) none H) := fun B G σ H ok x Q =>
  h B G σ H ok _ fun vs G1 H1 s1 r1 => by
    rw [List.append_nil]
    exact ⟨ds, .error c, G1, s1.gh, r1, hn, hR, fun G' H' s => x G' H' (s1.tr s)⟩
theorem rz_callWS {Wx : WX} (h : EvA ta Γ ds) (hn : ds.length = n) (hR : R ds (.error c)) : Rz (tCallS (spW W K n R) (WE Wx) ta) Γ (fun σ H => Wx (.ref (He.ga K c)) none σ H) := fun B G σ H ok x Q =>
  h B G σ H ok _ fun vs G1 H1 s1 r1 => ⟨ds, .error c, G1, s1.gh, r1, hn, hR, fun G' H' s => x G' H' (s1.tr s)⟩
theorem Rz.at {X : L2.St → Hp → Prop} {f : VK → L2.St → VK} (h : Rz te Γ X) (q : At B Γ X) (hk : ∀ σ H, (∀ Q, te σ H Q) → k σ H) : At B Γ k := fun G σ H ok =>
  hk σ H (h B G σ H ok fun G' H' s => q G' σ H' (ok.step s))
theorem at_rzDrop {X : L2.St → Hp → Prop} (h : Rz te Γ X) (q : At B Γ X) : At B Γ (tDrop te D) := fun G σ H ok => h B G σ H ok (fun G' H' s => q G' σ H' (ok.step s)) _
theorem at_rzSet {X : L2.St → Hp → Prop} (h : Rz te Γ X) (q : At B Γ X) : At B Γ (tAsg te (gName i) D) := fun G σ H ok => h B G σ H ok (fun G' H' s => q G' σ H' (ok.step s)) _
theorem at_rzRet {X : L2.St → Hp → Prop} (h : Rz te Γ X) (q : At B Γ X) : At B Γ (tRet te D) := fun G σ H ok => h B G σ H ok (fun G' H' s => q G' σ H' (ok.step s)) _
theorem rz_arg {r : TA} {sp : Sp} {X : L2.St → Hp → Prop} (h : Rz te Γ X) : Rz (tCall sp [] E (tCons te r)) Γ X := fun B G σ H ok x Q => h B G σ H ok x _
theorem at_xq (h : Xq K B E c) : At B Γ (fun _ H => E (.ref (He.ga K c)) none H) := fun G σ H ok => h G H ok.st
/-- ends of a def's value -/
theorem at_rtO (h : EvM te Γ S d) {d' : PyData} (e : d = d') (q : RtO B rt d') : At B Γ (tRet te ⟨nx, rt, bk, ct⟩) := at_retO h (e ▸ q)
/-- what is one's own, given away as mere data -/
theorem at_rtM (h : EvM te Γ S d) {d' : PyData} (e : d = d') (q : RtOk B rt d') : At B Γ (tRet te ⟨nx, rt, bk, ct⟩) := by
  subst e
  exact at_retO h fun v f G H s r nd m => by
    have st := s.giveL f m
    exact q v _ H st.1 (r.rp st.2.1 _ _ _ st.2.2)
theorem rtO_of (q : RtOk B rt d) : RtO B rt d := fun v f G H s r nd m => by
  have st := s.giveL f m
  exact q v _ H st.1 (r.rp st.2.1 _ _ _ st.2.2)
/-! exceptions that are caught -/
theorem takes0 {X : Cx} : Takes X (fun _ _ _ _ => False) := fun u s' ⟨_, _, _, _, _, _, _, _, _, _, _, _, _, _, _, _, w⟩ => w.elim
theorem at_wAs {cv cls : Value} {dd : Option Addr} {ts : Addr → Value → Option Addr → TS} {Wout : WX} (hm : PySem.W.exmOne K cls cv = some true)
    (q : ∀ a, At B (Γ.set i (.ex a)) (ts a cls dd { nx := fun σ' H' => nx (σ'.set i none) H', rt := rt, bk := fun σ' H' => bk (σ'.set i none) H', ct := fun σ' H' => ct (σ'.set i none) H' })) :
    At B Γ (fun σ H => wAs K cv i ts Wout ⟨nx, rt, bk, ct⟩ cls dd σ H) := fun G σ H ok => ⟨true, hm, fun _ a _ => q a G _ H (ok.setE i a), fun z => by cases z⟩
theorem at_unE {Γ' : List Sl} (q : At B Γ' k) (h : ∃ Γ2 : List Sl, Γ.set i .un = Γ') : At B Γ (fun σ H => k (σ.set i none) H) := fun G σ H ok => by
  obtain ⟨_, e⟩ := h
  exact q G _ H (e ▸ ok.setU i none)
theorem at_wMany_hit {cv cls : Value} {dd : Option Addr} {ts : Addr → Value → Option Addr → TS} {l : List (Value × (Addr → Value → Option Addr → TS))} {Wout : WX} (hm : PySem.W.exmOne K cls cv = some true) (q : ∀ a, At B Γ (ts a cls dd D)) :
    At B Γ (fun σ H => wMany K Wout D ((cv, ts) :: l) cls dd σ H) := fun G σ H ok => ⟨true, hm, fun _ a _ => q a G _ H ok, fun z => by cases z⟩
theorem at_wMany_miss {cv cls : Value} {dd : Option Addr} {ts : Addr → Value → Option Addr → TS} {l : List (Value × (Addr → Value → Option Addr → TS))} {Wout : WX} (hm : PySem.W.exmOne K cls cv = some false) (q : At B Γ (fun σ H => wMany K Wout D l cls dd σ H)) :
    At B Γ (fun σ H => wMany K Wout D ((cv, ts) :: l) cls dd σ H) := fun G σ H ok => ⟨false, hm, fun z => (by cases z), fun _ => q G _ H ok⟩
theorem at_wMany_end {cls : Value} {dd : Option Addr} {Wout : WX} (q : At B Γ (fun σ H => Wout cls dd σ H)) : At B Γ (fun σ H => wMany K Wout D [] cls dd σ H) := q
end
/-! the classes in an except suite -/
theorem pss_cls {X : Cx} {b : List Stmt} {cls : Value} {d : Option Addr} {K : PySem.W.Frag} {names : List Str} {t : Str → TS} (h : ∀ nm ∈ names, cls = .ref (He.ga K nm) → d = none → PSs X b (t nm)) :
    PSs X b (fun D σ H => ∃ nm, nm ∈ names ∧ cls = .ref (He.ga K nm) ∧ d = none ∧ t nm D σ H) :=
  ⟨fun pins s σ H D I ⟨nm, m, e, e2, z⟩ => (h nm m e e2).run pins s σ H D I z⟩
theorem at_cls {K : PySem.W.Frag} {B : Bs} {Γ : List Sl} {names : List Str} {t : Str → TS} {D : Ends} {nm : Str} (m : nm ∈ names) (q : At B Γ (t nm D)) :
    At B Γ (fun σ H => ∃ n', n' ∈ names ∧ (Value.ref (He.ga K nm) : Value) = .ref (He.ga K n') ∧ (none : Option Addr) = none ∧ t n' D σ H) := fun G σ H ok => ⟨nm, m, rfl, rfl, q G σ H ok⟩
/-- which is a kind of which -/
def isX (x y : Str) : Bool := decide (x = y) || decide (y = "KeepError")
def excB (K : PySem.W.Frag) (D : Addr) : Bool :=
  decide (PySem.W.findIn K (.ref D) "__getattribute__" = some (some (.builtin "BaseException.__getattribute__"))) && (decide (PySem.W.findIn K (.ref D) "__getattr__" = some none) && (decide (PySem.W.subIn K (.ref D) (.type "BaseException") = some true) &&
  (PySem.W.hasDictIn K D && (decide (PySem.W.findIn K (.ref D) "__class__" = some (some (.builtin "object.__class__"))) && (decide (PySem.W.specialIn K (.builtin "object.__class__") "__get__" = some (some (.builtin "getset_descriptor.__get__"))) &&
  (decide (PySem.W.takesIn K (.builtin "object.__class__") = some true) && decide (PySem.W.mroIn K D (.type "object") = some true)))))))
theorem excB_C {K : PySem.W.Frag} {D : Addr} (h : excB K D = true) : ExcC K D := by
  unfold excB at h
  simp only [Bool.and_eq_true, decide_eq_true_eq] at h
  obtain ⟨h1, h2, h3, h4, h5, h6, h7, h8⟩ := h
  exact ⟨h1, h2, h3, h4, h5, h6, h7, h8⟩
/-- xs: those that are raised; ys: those that are asked for -/
def clsB (K : PySem.W.Frag) (xs ys : List Str) : Bool :=
  xs.all fun x => excB K (He.ga K x) && (decide (PySem.W.kitOne K (.ref (He.ga K x)) (.type "ValueError") = some true) && ys.all fun y => decide (PySem.W.exmOne K (.ref (He.ga K x)) (.ref (He.ga K y)) = some (isX x y)) && decide (PySem.W.kitOne K (.ref (He.ga K x)) (.ref (He.ga K y)) = some (isX x y)))
structure ClsOk (K : PySem.W.Frag) (xs ys : List Str) : Prop where
  ex : ∀ x ∈ xs, ExcC K (He.ga K x)
  ve : ∀ x ∈ xs, PySem.W.kitOne K (.ref (He.ga K x)) (.type "ValueError") = some true
  em : ∀ x ∈ xs, ∀ y ∈ ys, PySem.W.exmOne K (.ref (He.ga K x)) (.ref (He.ga K y)) = some (isX x y)
  is : ∀ x ∈ xs, ∀ y ∈ ys, PySem.W.kitOne K (.ref (He.ga K x)) (.ref (He.ga K y)) = some (isX x y)
theorem clsB_ok {K : PySem.W.Frag} {xs ys : List Str} (h : clsB K xs ys = true) : ClsOk K xs ys := by
  unfold clsB at h
  rw [List.all_eq_true] at h
  have h' : ∀ x ∈ xs, excB K (He.ga K x) = true ∧ PySem.W.kitOne K (.ref (He.ga K x)) (.type "ValueError") = some true ∧ ∀ y ∈ ys, PySem.W.exmOne K (.ref (He.ga K x)) (.ref (He.ga K y)) = some (isX x y) ∧ PySem.W.kitOne K (.ref (He.ga K x)) (.ref (He.ga K y)) = some (isX x y) := fun x hx => by
    have := h x hx
    simp only [Bool.and_eq_true, decide_eq_true_eq, List.all_eq_true] at this
    exact this
  exact ⟨fun x hx => excB_C (h' x hx).1, fun x hx => (h' x hx).2.1, fun x hx y hy => ((h' x hx).2.2 y hy).1, fun x hx y hy => ((h' x hx).2.2 y hy).2⟩
section
variable {K : PySem.W.Frag} {Γ : List Sl} {D a : Addr} {i : Nat} {b : Bool}
theorem ev_isE {C : Addr} (e : Γ[i]? = some (.ex a)) (h : PySem.W.kitOne K (.ref D) (.ref C) = some b) : Ev (tCB (rIsE K D a) (tCons (tVar i) (tCons (tC (.ref C)) tNil))) Γ (.bool b) := fun B G σ H ok Q q =>
  ⟨.ref a, ok.exc e, .ref C, .ref C, b, rfl, fun u r => (show u = Value.ref C from r), h, q _ G H (Stp.rfl' ok.gh) (.bl b)⟩
theorem ev_isEty {C : String} (e : Γ[i]? = some (.ex a)) (h : PySem.W.kitOne K (.ref D) (.type C) = some b) : Ev (tCB (rIsE K D a) (tCons (tVar i) (tCons (tC (.ty C)) tNil))) Γ (.bool b) := fun B G σ H ok Q q =>
  ⟨.ref a, ok.exc e, .ty C, .type C, b, rfl, fun u r => (show u = Value.type C from r), h, q _ G H (Stp.rfl' ok.gh) (.bl b)⟩
end
end Ck

namespace Ck
open PySem PySem.Spec PyProof.Rows L2

/-! ### deeds, keepers, chains as data -/
structure Dd where
  a : Int
  t : Int
  w : Str
  k : Str
  v : Int
deriving DecidableEq
def Dd.e (d : Dd) : PyData := .tuple [.int d.a, .int d.t, .str d.w, .str d.k, .int d.v]
structure Dd.ok (d : Dd) : Prop where
  a0 : 0 ≤ d.a
  a9 : d.a ≤ 9
  t1 : 1 ≤ d.t
  key : isKeyS d.k = true
  word : isWordS d.w d.v = true
theorem strOk_key {z : Str} (h : isKeyS z = true) : PyData.strOk z = true := by
  unfold isKeyS at h
  simp only [Bool.and_eq_true, decide_eq_true_eq] at h
  unfold PyData.strOk
  have h2 := h.2.2
  unfold lowD at h2
  rw [← Array.all_toList]
  rw [List.all_eq_true] at h2 ⊢
  intro c hc
  have := h2 c hc
  rw [decide_eq_true_eq, letters_mem] at this
  rw [decide_eq_true_eq]
  omega
theorem word_cases {w : Str} {v : Int} (h : isWordS w v = true) : (w = wPut ∨ w = wAdd ∨ w = wOnce) ∨ (w = wAway ∧ v = 0) := by
  unfold isWordS at h
  simp only [Bool.or_eq_true, Bool.and_eq_true, decide_eq_true_eq, beq_iff_eq] at h
  exact h
theorem strOk_word {w : Str} {v : Int} (h : isWordS w v = true) : PyData.strOk w = true := by
  rcases word_cases h with (rfl | rfl | rfl) | ⟨rfl, _⟩ <;> decide +kernel
theorem len_word {w : Str} {v : Int} (h : isWordS w v = true) : w.length ≤ 100000 := by
  rcases word_cases h with (rfl | rfl | rfl) | ⟨rfl, _⟩ <;> decide +kernel
theorem len_key {z : Str} (h : isKeyS z = true) : z.length ≤ 100000 := by
  unfold isKeyS at h
  simp only [Bool.and_eq_true, decide_eq_true_eq] at h
  omega
theorem Dd.ok.isDeed {d : Dd} (h : d.ok) : isDeedD d.e = true := by
  show (decide (0 ≤ d.a) && decide (d.a ≤ 9) && decide (1 ≤ d.t) && isKeyS d.k && isWordS d.w d.v) = true
  rw [decide_eq_true h.a0, decide_eq_true h.a9, decide_eq_true h.t1, h.key, h.word]; rfl
theorem deed_of {x : PyData} (h : isDeedD x = true) : ∃ d : Dd, d.ok ∧ x = d.e := by
  rcases tup_or x with ⟨a, t, w, k, v, rfl⟩ | ⟨ds, rfl, hd⟩ | hx
  · have h' : isDeed5 a t w k v = true := h
    cases a with
    | int a =>
      cases t with
      | int t =>
        cases w with
        | str w =>
          cases v with
          | int v =>
            have h2 : (decide (0 ≤ a) && decide (a ≤ 9) && decide (1 ≤ t) && isKeyD k && isWordS w v) = true := h'
            simp only [Bool.and_eq_true, decide_eq_true_eq] at h2
            cases k with
            | str k => exact ⟨⟨a, t, w, k, v⟩, ⟨h2.1.1.1.1, h2.1.1.1.2, h2.1.1.2, h2.1.2, h2.2⟩, rfl⟩
            | _ => exact absurd h2.1.2 (by simp [isKeyD])
          | _ => exact absurd h' (by simp [isDeed5])
        | _ => exact absurd h' (by simp [isDeed5])
      | _ => exact absurd h' (by simp [isDeed5])
    | _ => exact absurd h' (by simp [isDeed5])
  · rw [isDeed_len hd] at h; cases h
  · rw [isDeed_tup hx] at h; cases h
theorem Dd.ok.sz {d : Dd} (h : d.ok) : DeedSz d.e := fun x hx => by
  simp only [List.mem_cons, List.not_mem_nil, or_false] at hx
  rcases hx with rfl | rfl | rfl | rfl | rfl
  · exact ⟨trivial, trivial⟩
  · exact ⟨trivial, trivial⟩
  · exact ⟨len_word h.word, strOk_word h.word⟩
  · exact ⟨len_key h.key, strOk_key h.key⟩
  · exact ⟨trivial, trivial⟩
theorem Dd.ok.shp {d : Dd} (h : d.ok) : Shp 1 d.e := shp_tuple (n := 0) fun x hx => by
  simp only [List.mem_cons, List.not_mem_nil, or_false] at hx
  rcases hx with rfl | rfl | rfl | rfl | rfl
  · exact shp_int
  · exact shp_int
  · exact shp_str (strOk_word h.word)
  · exact shp_str (strOk_key h.key)
  · exact shp_int
theorem eqv_dd {c d : Dd} : PyData.eqv c.e d.e = decide (c = d) := by
  obtain ⟨a, t, w, k, v⟩ := c
  obtain ⟨a', t', w', k', v'⟩ := d
  show PyData.eqv (.tuple [.int a, .int t, .str w, .str k, .int v]) (.tuple [.int a', .int t', .str w', .str k', .int v']) = _
  simp only [PyData.eqv, PyData.eqvAll, Bool.and_true]
  by_cases h : (⟨a, t, w, k, v⟩ : Dd) = ⟨a', t', w', k', v'⟩
  · cases h; simp
  · rw [decide_eq_false h]
    rw [Bool.eq_false_iff]
    intro z
    simp only [Bool.and_eq_true, beq_iff_eq] at z
    exact h (by rw [z.1, z.2.1, z.2.2.1, z.2.2.2.1, z.2.2.2.2])
theorem noL_dd {d : Dd} : noL d.e = true := by simp [Dd.e, noL, noLs]
theorem noLs_map {α : Type} {f : α → PyData} (h : ∀ x, noL (f x) = true) : ∀ xs : List α, noLs (xs.map f) = true
  | [] => by simp [noLs]
  | x :: xs => by rw [List.map_cons]; simp only [noLs, h x, noLs_map h xs, Bool.and_self]
structure Kp where
  log : List Dd
  sure : Int
  down : List Dd
  up : List Int
def Kp.e (k : Kp) : PyData := .tuple [.list (k.log.map Dd.e), .int k.sure, .list (k.down.map Dd.e), .list (k.up.map .int)]
/-- of a moderate size, of deeds -/
structure Kp.ok (k : Kp) : Prop where
  ll : k.log.length ≤ 1000
  ld : k.down.length ≤ 1000
  lu : k.up.length ≤ 1000
  dl : ∀ d ∈ k.log, d.ok
  dd : ∀ d ∈ k.down, d.ok
def coE : Option (List Dd) → PyData
  | none => .none
  | some l => .list (l.map Dd.e)
structure Ch where
  ks : List Kp
  co : Option (List Dd)
def Ch.e (c : Ch) : PyData := .tuple [.list (c.ks.map Kp.e), coE c.co]
structure Ch.ok (c : Ch) : Prop where
  lk : c.ks.length ≤ 1000
  kp : ∀ k ∈ c.ks, k.ok
  lc : ∀ l, c.co = some l → l.length ≤ 1000 ∧ ∀ d ∈ l, d.ok
/-! what the defs tell -/
def nilK : Kp := ⟨[], 0, [], []⟩
def begunO (n : Int) : Oc := if n < 1 ∨ 9 < n then .error "TooMany" else .ok (Ch.e ⟨List.replicate n.toNat nilK, none⟩)
def R_begun (ds : List PyData) (o : Oc) : Prop := ∃ n : Int, ds = [.int n] ∧ o = begunO n
def R_keeper_of (ds : List PyData) (o : Oc) : Prop := ∃ k : Kp, ds = [k.e] ∧ o = .ok k.e
def R_chain_of (ds : List PyData) (o : Oc) : Prop := ∃ c : Ch, ds = [.list (c.ks.map Kp.e), coE c.co] ∧ c.ks.length ≤ 1001 ∧ o = .ok c.e
def R_with_keeper (ds : List PyData) (o : Oc) : Prop := ∃ (c : Ch) (p : Nat) (k : Kp), ds = [c.e, .int p, k.e] ∧ p < c.ks.length ∧ c.ok ∧ o = .ok (Ch.e ⟨c.ks.set p k, c.co⟩)
def atEnd (k : Kp) (d : Dd) (b : Bool) : Kp := if b then ⟨k.log ++ [d], k.log.length + 1, [], k.up⟩ else ⟨k.log ++ [d], k.sure, k.down ++ [d], k.up⟩
def R_at_end (ds : List PyData) (o : Oc) : Prop := ∃ (k : Kp) (d : Dd) (b : Bool), ds = [k.e, d.e, .bool b] ∧ k.ok ∧ o = .ok (atEnd k d b).e
def takeO (k : Kp) (ks : List Kp) (co : Option (List Dd)) (d : Dd) : Oc :=
  let same := k.log.filter fun x => decide (x.a = d.a)
  if (same.length : Int) + 1 < d.t then .error "BadTurn"
  else if d.t ≤ same.length then (if same[(d.t - 1).toNat]? ≠ some d then .error "OtherDeed" else .ok (Ch.e ⟨k :: ks, co⟩))
  else .ok (Ch.e ⟨atEnd k d ks.isEmpty :: ks, co⟩)
def R_take (ds : List PyData) (o : Oc) : Prop := ∃ (k : Kp) (ks : List Kp) (co : Option (List Dd)), (Ch.mk (k :: ks) co).ok ∧
  ((∃ x, ds = [(Ch.mk (k :: ks) co).e, x] ∧ DeedSz x ∧ isDeedD x = false ∧ o = .error "BadDeed") ∨ (∃ d : Dd, d.ok ∧ ds = [(Ch.mk (k :: ks) co).e, d.e] ∧ o = takeO k ks co d))
section
variable {K : PySem.W.Frag} {Γ : List Sl} {ta tb tc : TE} {E : XK} {W : WK}
theorem ev_at_end {k : Kp} {d : Dd} {b : Bool} (h1 : Ev ta Γ k.e) (h2 : Ev tb Γ d.e) (h3 : Ev tc Γ (.bool b)) (hk : k.ok) : Ev (tCall (spW WD K 3 R_at_end) [] E (tCons ta (tCons tb (tCons tc tNil)))) Γ (atEnd k d b).e :=
  ev_callW (ea_cons h1 (ea_cons h2 (ea_cons h3 ea_nil))) rfl ⟨k, d, b, rfl, hk, rfl⟩
theorem em_keeper_of {k : Kp} (h1 : Ev ta Γ k.e) : EvM (tCall (spW WO K 1 R_keeper_of) [] E (tCons ta tNil)) Γ [] k.e := em_callW (ea_cons h1 ea_nil) rfl ⟨k, rfl, rfl⟩
theorem em_chain_of {c : Ch} (h1 : Ev ta Γ (.list (c.ks.map Kp.e))) (h2 : Ev tb Γ (coE c.co)) (hz : c.ks.length ≤ 1001) : EvM (tCall (spW WO K 2 R_chain_of) [] E (tCons ta (tCons tb tNil))) Γ [] c.e :=
  em_callW (ea_cons h1 (ea_cons h2 ea_nil)) rfl ⟨c, rfl, hz, rfl⟩
theorem em_with_keeper {c : Ch} {p : Nat} {k : Kp} (h1 : Ev ta Γ c.e) (h2 : Ev tb Γ (.int p)) (h3 : Ev tc Γ k.e) (hp : p < c.ks.length) (hc : c.ok) : EvM (tCall (spW WO K 3 R_with_keeper) [] E (tCons ta (tCons tb (tCons tc tNil)))) Γ [] (Ch.e ⟨c.ks.set p k, c.co⟩) :=
  em_callW (ea_cons h1 (ea_cons h2 (ea_cons h3 ea_nil))) rfl ⟨c, p, k, rfl, hp, hc, rfl⟩
theorem em_S {S S' : List Nat} {d : PyData} (h : EvM ta Γ S d) (e : S = S') : EvM ta Γ S' d := e ▸ h
theorem atI_cons0 {α : Type} {x : α} {xs : List α} : atI (x :: xs) 0 = some x := atI_of (i := 0) rfl
/-! lists of owned things -/
theorem em_lcm {α : Type} {js : List Nat} {j : Nat} {wi : TI} (enc : α → PyData) (xs : List α) (f : α → PyData) (hj : js = [j]) (hi : EvI wi Γ (xs.map enc)) (hz : xs.length ≤ sizeLine) (he : ∀ x ∈ xs, EvM ta (Γ.set j (.d (enc x))) [] (f x)) :
    EvM (tLc wi (gName j) tYes ta js) Γ [] (.list (xs.map f)) := fun B G σ H F k Q q => hi B G σ H ⟨F, k⟩ _ fun J G1 H1 s1 it => by
  subst hj
  intro D hD
  have hGD : G1 D = none := s1.gh.no hD
  have hlen : (xs.map enc).length = xs.length := List.length_map _
  refine ⟨fun i m H2 => m = xs.length - i ∧ i ≤ xs.length ∧ ∃ G2 acc fp, Stp G1 H1 G2 H2 ∧ G2 D = none ∧ H2 D = some (.lst acc) ∧ Ros G2 H2 acc ((xs.take i).map f) fp ∧ fp.Nodup ∧ (∀ a ∈ fp, G2 a = none ∧ H1 a = none ∧ a ≠ D), ⟨xs.length, by simp, Nat.zero_le _, G1, [], [], Stp.newH s1.gh hD, hGD, upd_same, .nil, List.nodup_nil, fun _ m => by cases m⟩, ?_⟩
  rintro i m H2 ⟨rfl, hil, G2, acc, fp, s2, hg2, hh2, ra, nd, hfp⟩
  by_cases hlt : i < xs.length
  · have hget : xs[i]? = some xs[i] := List.getElem?_eq_getElem hlt
    have hget' : (xs.map enc)[i]? = some (enc xs[i]) := by rw [List.getElem?_map, hget]; rfl
    have hmem : xs[i] ∈ xs := List.getElem_mem hlt
    have htk : xs.take (i + 1) = xs.take i ++ [xs[i]] := by rw [List.take_add_one, hget]; rfl
    refine .inr ⟨it.go i H2 (by rw [hlen]; exact hlt) (s2.g.tr s2.gh), fun H' => ∃ G' acc' fp', Stp G1 H1 G' H' ∧ G' D = none ∧ H' D = some (.lst acc') ∧ Ros G' H' acc' ((xs.take (i + 1)).map f) fp' ∧ fp'.Nodup ∧ (∀ a ∈ fp', G' a = none ∧ H1 a = none ∧ a ≠ D),
      fun H' h' => ⟨xs.length - (i + 1), by omega, rfl, hlt, h'⟩, fun x H' hy => ?_⟩
    obtain ⟨rfl, rx⟩ := it.yld i H2 x H' _ hget' (s2.g.tr s2.gh) hy
    refine ⟨wipe_after σ j x, ?_⟩
    rw [wipe_set]
    have ok2 : Ok B G2 (σ.set j (some x)) H' (Γ.set j (.d (enc xs[i]))) := ((Ok.step ⟨F, k⟩ s1).step s2).setD j (rx.up s2.g)
    delta tYes
    dsimp only
    rw [if_pos rfl]
    obtain ⟨F2, k2⟩ := ok2
    refine he _ hmem B G2 _ H' F2 k2 _ fun v g G4 H4 s4 rv nd4 m4 => ?_
    have hh4 : H4 D = some (.lst acc) := s4.h D _ hh2
    have hg4 : G4 D = none := s4.nw D _ hh2 hg2
    have hal : acc.length < sizeLine := by
      have h1 := Ros.len _ _ _ ra
      rw [List.length_map, List.length_take] at h1
      omega
    have new4 : ∀ a ∈ g, H' a = none ∧ G4 a = none := fun a ha => by
      rcases (m4 a ha).2 with z | ⟨l, hl, _⟩
      · exact ⟨z, (m4 a ha).1⟩
      · cases hl
    have neD : ∀ a ∈ g, a ≠ D := fun a ha z => by
      have := (new4 a ha).1
      rw [z, hh2] at this; cases this
    have mta := Ros.mt _ _ _ ra
    have hfp4 : ∀ a ∈ fp, upd H4 D (.lst (acc ++ [v])) a = H' a := fun a ha => by
      rw [upd_ne (hfp a ha).2.2]
      exact (mta a ha).ex s4.h
    refine ⟨acc, hh4, hal, G4, acc ++ [v], fp ++ g, ?_, hg4, upd_same, ?_, ?_, ?_⟩
    · have st := s2.tr s4
      refine ⟨st.g, fun b o e => ?_, fun b o e => ?_, st.nw⟩
      · rw [upd_ne (ne_of_none e hD)]
        exact st.h b o e
      · rw [upd_ne (fun z => by subst z; rw [hg4] at e; cases e)]
        exact st.gh b o e
    · rw [htk, List.map_append]
      have h1 : Ros G4 (upd H4 D (.lst (acc ++ [v]))) acc ((xs.take i).map f) fp := Ros.fr (exTup s4.g) _ _ _ ra hfp4
      have h2 : Ros G4 (upd H4 D (.lst (acc ++ [v]))) [v] [f xs[i]] (g ++ []) := .cons (Ro.fr (fun _ _ z => z) _ _ _ rv fun a ha => upd_ne (neD a ha)) .nil
      rw [List.append_nil] at h2
      have app : ∀ {vs : List V} {ds : List PyData} {fa : List Addr}, Ros G4 (upd H4 D (.lst (acc ++ [v]))) vs ds fa → Ros G4 (upd H4 D (.lst (acc ++ [v]))) (vs ++ [v]) (ds ++ [f xs[i]]) (fa ++ g) := by
        intro vs ds fa hr
        induction ds generalizing vs fa with
        | nil => cases hr; exact h2
        | cons d ds ih =>
          cases hr with
          | cons a b =>
            rw [List.append_assoc]
            exact .cons a (ih b)
      exact app h1
    · refine List.nodup_append.mpr ⟨nd, nd4, fun a ha b hb e => ?_⟩
      subst e
      obtain ⟨o, ho⟩ := (mta a ha).some
      rw [(new4 a hb).1] at ho; cases ho
    · intro a ha
      rcases List.mem_append.mp ha with ha | ha
      · obtain ⟨o, ho⟩ := (mta a ha).some
        exact ⟨s4.nw a o ho (hfp a ha).1, (hfp a ha).2.1, (hfp a ha).2.2⟩
      · exact ⟨(new4 a ha).2, s2.h.no (new4 a ha).1, neD a ha⟩
  · have e : i = xs.length := by omega
    subst e
    rw [List.take_length] at ra
    refine .inl ⟨?_, q (.ref D) (D :: fp) G2 H2 (s1.tr s2) (.lst hh2 ra) (List.nodup_cons.mpr ⟨fun m => (hfp D m).2.2 rfl, nd⟩) fun a ha => ?_⟩
    · have h := it.stop H2 (s2.g.tr s2.gh)
      rw [hlen] at h
      exact h
    · rcases List.mem_cons.mp ha with rfl | ha
      · exact ⟨hg2, .inl (s1.h.no hD)⟩
      · exact ⟨(hfp a ha).1, .inl (s1.h.no (hfp a ha).2.1)⟩
end
end Ck
namespace Ck
open PySem PySem.Spec PyProof.Rows L2
def stp (w : Str) (i : Nat) : PyData := .tuple [.str w, .int i]
def kAt (ks : List Kp) (i : Nat) : Kp := ks.getD i nilK
def stepsD (c : Ch) : List PyData := ((List.range c.ks.length).filter fun i => !(kAt c.ks i).down.isEmpty).map (stp "pass") ++ ((List.range c.ks.length).filter fun i => !(kAt c.ks i).up.isEmpty).map (stp "back") ++ (if c.co.isSome then [stp "learn" c.ks.length] else [])
def R_steps_of (ds : List PyData) (d : PyData) : Prop := ∃ c : Ch, ds = [c.e] ∧ c.ok ∧ d = .list (stepsD c)
def R_done0 (ds : List PyData) (o : Oc) : Prop := ∃ (c : Ch) (w : Str) (i : Int), ds = [c.e, .tuple [.str w, .int i]] ∧ c.ok ∧ PyData.strOk w = true ∧ ((stepsD c).any fun y => PyData.eqv y (.tuple [.str w, .int i])) = false ∧ o = .error "NoStep"
def R_fall0 (ds : List PyData) (o : Oc) : Prop := ∃ (c : Ch) (p : Int), ds = [c.e, .int p] ∧ c.ok ∧ c.co = none ∧ (((p < 0 ∨ c.ks.length ≤ p) ∧ o = .error "NoKeeper") ∨ (0 ≤ p ∧ p < c.ks.length ∧ c.ks.length = 1 ∧ o = .error "OnlyKeeper"))
def R_ask0 (ds : List PyData) (o : Oc) : Prop := ∃ (c : PyData) (x : PyData), ds = [c, x] ∧ SzS x ∧ isKeyD x = false ∧ o = .error "BadKey"
def grownD (ks : List Kp) (l : List Dd) : Ch := if l.length = ((ks.getLast?.getD nilK).log).length then ⟨ks ++ [⟨l, l.length, [], []⟩], none⟩ else ⟨ks, some l⟩
def R_grown (ds : List PyData) (o : Oc) : Prop := ∃ (ks : List Kp) (l : List Dd), ds = [.list (ks.map Kp.e), .list (l.map Dd.e)] ∧ ks ≠ [] ∧ (Ch.mk ks (some l)).ok ∧ o = .ok (grownD ks l).e
def comeO (c : Ch) : Oc := if c.co.isSome then .error "OneComing" else if c.ks.length = 9 then .error "TooMany" else .ok (grownD c.ks []).e
def R_come (ds : List PyData) (o : Oc) : Prop := ∃ c : Ch, ds = [c.e] ∧ c.ok ∧ c.ks ≠ [] ∧ o = comeO c
section
variable {K : PySem.W.Frag} {Γ : List Sl} {ta tb tc te : TE} {E : XK} {W : WK}
theorem ev_listRg {n : Int} (h : Ev te Γ (.int n)) (h1 : 0 ≤ n) (h2 : n ≤ 1000) : Ev (tLstRg (tRg1 te)) Γ (.list (rngD 0 n.toNat)) := fun B G σ H ok Q q => h B G σ H ok _ fun v G1 H1 s1 r1 => by
  cases r1
  refine ⟨n, rfl, ⟨by omega, by omega, by omega, by omega, sz_dec (by omega)⟩, fun p hp => ?_⟩
  have e : rgV 0 n = (List.range n.toNat).map fun k : Nat => V.int (0 + k) := by
    unfold rgV
    rw [show (n - 0).toNat = n.toNat by omega]
  refine q (.ref p) _ _ (s1.tr (Stp.new s1.gh hp)) (.lst (.inl upd_same) ?_)
  rw [e]
  have key : ∀ (G : Hp) (l : List Nat), Rps G (l.map fun k : Nat => V.int (0 + k)) (l.map fun k : Nat => PyData.int (0 + k)) := fun G l => by
    induction l with
    | nil => exact .nil
    | cons a b ih => exact .cons (.int _) ih
  exact key _ _
theorem ev_steps_of {c : Ch} (h : Ev ta Γ c.e) (hc : c.ok) : Ev (tCall (spP 1 R_steps_of) [] E (tCons ta tNil)) Γ (.list (stepsD c)) := ev_call (ea_cons h ea_nil) rfl ⟨c, rfl, hc, rfl⟩
theorem em_grown {ks : List Kp} {l : List Dd} (h1 : Ev ta Γ (.list (ks.map Kp.e))) (h2 : Ev tb Γ (.list (l.map Dd.e))) (hn : ks ≠ []) (hc : (Ch.mk ks (some l)).ok) : EvM (tCall (spW WO K 2 R_grown) [] E (tCons ta (tCons tb tNil))) Γ [] (grownD ks l).e :=
  em_callW (ea_cons h1 (ea_cons h2 ea_nil)) rfl ⟨ks, l, rfl, hn, hc, rfl⟩
theorem shp_stp {w : Str} {i : Nat} (h : PyData.strOk w = true) : Shp 1 (stp w i) := shp_tuple (n := 0) fun x hx => by
  simp only [List.mem_cons, List.not_mem_nil, or_false] at hx
  rcases hx with rfl | rfl
  · exact shp_str h
  · exact shp_int
theorem shp_steps {c : Ch} : Shp 2 (.list (stepsD c)) := shp_list (n := 1) fun x hx => by
  unfold stepsD at hx
  rw [List.mem_append, List.mem_append, List.mem_map, List.mem_map] at hx
  rcases hx with (⟨i, _, rfl⟩ | ⟨i, _, rfl⟩) | hx
  · exact shp_stp (by decide +kernel)
  · exact shp_stp (by decide +kernel)
  · split at hx
    · rw [List.mem_singleton] at hx; subst hx; exact shp_stp (by decide +kernel)
    · cases hx
theorem stepsD_len {c : Ch} (hc : c.ok) : (stepsD c).length ≤ 2001 := by
  have h1 := List.length_filter_le (fun i => !(kAt c.ks i).down.isEmpty) (List.range c.ks.length)
  have h2 := List.length_filter_le (fun i => !(kAt c.ks i).up.isEmpty) (List.range c.ks.length)
  have h := hc.lk
  unfold stepsD
  rw [List.length_append, List.length_append, List.length_map, List.length_map]
  rw [List.length_range] at h1 h2
  split <;> simp <;> omega
theorem shp_ddl {l : List Dd} (h : ∀ d ∈ l, d.ok) : Shp 2 (.list (l.map Dd.e)) := shp_list (n := 1) fun x hx => by
  obtain ⟨d, hd, rfl⟩ := List.mem_map.mp hx
  exact (h d hd).shp
theorem shp_il {l : List Int} : Shp 1 (.list (l.map .int)) := shp_list (n := 0) fun x hx => by
  obtain ⟨d, hd, rfl⟩ := List.mem_map.mp hx
  exact shp_int
theorem kAt_mem {ks : List Kp} {i : Nat} (h : i < ks.length) : kAt ks i ∈ ks := by
  unfold kAt
  rw [List.getD_eq_getElem?_getD, List.getElem?_eq_getElem h]
  exact List.getElem_mem h
theorem kAt_get {ks : List Kp} {i : Nat} (h : i < ks.length) : atI (ks.map Kp.e) (i : Int) = some (kAt ks i).e := by
  refine atI_map (f := Kp.e) (atI_of ?_)
  unfold kAt
  rw [List.getD_eq_getElem?_getD, List.getElem?_eq_getElem h]; rfl
/-- == of lists of truths -/
theorem eqvAll_bls : ∀ bs : List Bool, PyData.eqvAll (bs.map .bool) (bs.map .bool) = true
  | [] => by simp [PyData.eqvAll]
  | b :: bs => by
    rw [List.map_cons]
    simp only [PyData.eqvAll, PyData.eqv, eqvAll_bls bs, beq_self_eq_true, Bool.and_self]
theorem rv_eqBls {bs : List Bool} : RvD (rEqD K) (.list (bs.map .bool)) (.list (bs.map .bool)) (.bool true) := by
  have s : Shp 1 (.list (bs.map .bool)) := shp_list (n := 0) fun x hx => by
    obtain ⟨d, hd, rfl⟩ := List.mem_map.mp hx
    exact shp_bool
  have h := rv_eqD (K := K) s.sh s.sh
  rw [show PyData.eqv (.list (bs.map .bool)) (.list (bs.map .bool)) = true by simp only [PyData.eqv, eqvAll_bls]] at h
  exact h
end
end Ck

namespace Ck
open PySem PySem.Spec PyProof.Rows L2
def kindsL : List Str := ["BadDeed", "BadKey", "BadTurn", "OtherDeed", "NoStep", "NoKeeper", "OnlyKeeper", "OneComing", "TooMany"]
def R_called (ds : List PyData) (o : Oc) : Prop := ∃ (i : Nat) (c : Str) (n : Int), ds = [.int (i : Int), .int n] ∧ kindsL[i]? = some c ∧ 0 ≤ n ∧ o = .error c
def isXs (c : Str) : List Bool := kindsL.map (isX c) ++ [true]
def R_kinds (ds : List PyData) (d : PyData) : Prop := ∃ (i : Nat) (c : Str) (n : Int), ds = [.int (i : Int), .int n] ∧ kindsL[i]? = some c ∧ 0 ≤ n ∧ d = .list ((isXs c).map .bool)
def R_law (ds : List PyData) (d : PyData) : Prop := ∃ ns : List Int, ds = [scr ns] ∧ ns.length ≤ 63 ∧ d = .bool true
def dd14 (n v : Int) : Dd := ⟨n % 10, 1, "put", "a", v⟩
theorem dd14_ok (n v : Int) : (dd14 n v).ok := ⟨Int.emod_nonneg _ (by decide), by have := Int.emod_lt_of_pos n (show (0 : Int) < 10 by decide); show n % 10 ≤ 9; omega, Int.le_refl 1, by show isKeyS "a" = true; decide +kernel, by show isWordS "put" v = true; unfold isWordS; rfl⟩
def k14K (n : Int) : Kp := ⟨[dd14 n n], 1, [], []⟩
def c14 (n : Int) : Ch := ⟨[k14K n], none⟩
theorem k14K_ok (n : Int) : (k14K n).ok := ⟨by show 1 ≤ 1000; omega, by show 0 ≤ 1000; omega, by show 0 ≤ 1000; omega, fun d hd => by rw [List.mem_singleton.mp hd]; exact dd14_ok n n, fun d hd => by cases hd⟩
theorem c14_ok (n : Int) : (c14 n).ok := ⟨by show 1 ≤ 1000; omega, fun k hk => by rw [List.mem_singleton.mp hk]; exact k14K_ok n, fun l z => by cases z⟩
theorem nilK_ok : nilK.ok := ⟨by show 0 ≤ 1000; omega, by show 0 ≤ 1000; omega, by show 0 ≤ 1000; omega, fun d hd => (by cases hd), fun d hd => (by cases hd)⟩
theorem take14 (n : Int) : takeO nilK [] none (dd14 n n) = .ok (c14 n).e := by
  unfold takeO
  simp [nilK, dd14, atEnd, c14, k14K]
theorem come14 (n : Int) : comeO (c14 n) = .ok (Ch.e ⟨[k14K n], some []⟩) := by
  unfold comeO
  simp [c14, grownD, k14K]
theorem isKeyS_A (n : Int) : isKeyS (Txt.mul "A" (n % 3)) = false ∧ (Txt.mul "A" (n % 3)).length ≤ 100000 ∧ MulOk "A" (n % 3) := by
  have h1 := Int.emod_nonneg n (show (3 : Int) ≠ 0 by decide)
  have h2 := Int.emod_lt_of_pos n (show (0 : Int) < 3 by decide)
  generalize n % 3 = m at h1 h2
  obtain rfl | rfl | rfl : m = 0 ∨ m = 1 ∨ m = 2 := by omega
  · exact ⟨by decide +kernel, by decide +kernel, by unfold MulOk; decide +kernel⟩
  · exact ⟨by decide +kernel, by decide +kernel, by unfold MulOk; decide +kernel⟩
  · exact ⟨by decide +kernel, by decide +kernel, by unfold MulOk; decide +kernel⟩
theorem kinds_mem {i : Nat} {c : Str} (h : kindsL[i]? = some c) : c ∈ kindsL := List.mem_of_getElem? h
theorem isXs_eq {i : Nat} {c : Str} (h : kindsL[i]? = some c) : (isXs c) = ((List.range 9).map fun k => decide ((k : Nat) = i)) ++ [true] := by
  match i, h with
  | 0, h => cases h; decide +kernel
  | 1, h => cases h; decide +kernel
  | 2, h => cases h; decide +kernel
  | 3, h => cases h; decide +kernel
  | 4, h => cases h; decide +kernel
  | 5, h => cases h; decide +kernel
  | 6, h => cases h; decide +kernel
  | 7, h => cases h; decide +kernel
  | 8, h => cases h; decide +kernel
  | i + 9, h => cases h
section
variable {Γ : List Sl} {ta tb : TE} {E : XK}
theorem ev_kinds {i : Nat} {c : Str} {n : Int} (h1 : Ev ta Γ (.int (i : Int))) (h2 : Ev tb Γ (.int n)) (hc : kindsL[i]? = some c) (h0 : 0 ≤ n) : Ev (tCall (spP 2 R_kinds) [] E (tCons ta (tCons tb tNil))) Γ (.list ((isXs c).map .bool)) :=
  ev_call (ea_cons h1 (ea_cons h2 ea_nil)) rfl ⟨i, c, n, rfl, hc, h0, rfl⟩
end
end Ck
namespace Ck
open PySem PySem.Spec PyProof.Rows L2
def topS (i : Nat) : Stmt := PySem.Challenge.pw_chainkeep_k14_refusals_apart.main.body.getD i (.Pass ⟨0, 0, 0, 0⟩)
abbrev s_is_number : Stmt := topS 2
abbrev N_is_number : List Str := ["thing"]
theorem sc_is_number : FnScope N_is_number ["thing"] (defScope s_is_number) := ⟨rfl, rfl, rfl, by decide +kernel, rfl, by decide +kernel, by decide +kernel⟩
theorem b_is_number : BindsP "is_number" s_is_number ["thing"] := fun _ _ _ _ _ _ us hl => match us, hl with | [_], _ => rfl
abbrev s_is_key : Stmt := topS 3
abbrev N_is_key : List Str := ["thing", "sign"]
theorem sc_is_key : FnScope N_is_key ["thing"] (defScope s_is_key) := ⟨rfl, rfl, rfl, by decide +kernel, rfl, by decide +kernel, by decide +kernel⟩
theorem b_is_key : BindsP "is_key" s_is_key ["thing"] := fun _ _ _ _ _ _ us hl => match us, hl with | [_], _ => rfl
abbrev s_is_deed : Stmt := topS 4
abbrev N_is_deed : List Str := ["thing"]
theorem sc_is_deed : FnScope N_is_deed ["thing"] (defScope s_is_deed) := ⟨rfl, rfl, rfl, by decide +kernel, rfl, by decide +kernel, by decide +kernel⟩
theorem b_is_deed : BindsP "is_deed" s_is_deed ["thing"] := fun _ _ _ _ _ _ us hl => match us, hl with | [_], _ => rfl
abbrev s_done_by : Stmt := topS 5
abbrev N_done_by : List Str := ["store", "deed", "behind", "key", "ahead"]
theorem sc_done_by : FnScope N_done_by ["store", "deed"] (defScope s_done_by) := ⟨rfl, rfl, rfl, by decide +kernel, rfl, by decide +kernel, by decide +kernel⟩
theorem b_done_by : BindsP "done_by" s_done_by ["store", "deed"] := fun _ _ _ _ _ _ us hl => match us, hl with | [_, _], _ => rfl
abbrev s_plainly : Stmt := topS 6
abbrev N_plainly : List Str := ["deeds", "store", "answers", "deed", "behind"]
theorem sc_plainly : FnScope N_plainly ["deeds"] (defScope s_plainly) := ⟨rfl, rfl, rfl, by decide +kernel, rfl, by decide +kernel, by decide +kernel⟩
theorem b_plainly : BindsP "plainly" s_plainly ["deeds"] := fun _ _ _ _ _ _ us hl => match us, hl with | [_], _ => rfl
abbrev s_begun : Stmt := topS 20
abbrev N_begun : List Str := ["many", "place"]
theorem sc_begun : FnScope N_begun ["many"] (defScope s_begun) := ⟨rfl, rfl, rfl, by decide +kernel, rfl, by decide +kernel, by decide +kernel⟩
theorem b_begun : BindsP "begun" s_begun ["many"] := fun _ _ _ _ _ _ us hl => match us, hl with | [_], _ => rfl
abbrev s_keeper_of : Stmt := topS 21
abbrev N_keeper_of : List Str := ["keeper"]
theorem sc_keeper_of : FnScope N_keeper_of ["keeper"] (defScope s_keeper_of) := ⟨rfl, rfl, rfl, by decide +kernel, rfl, by decide +kernel, by decide +kernel⟩
theorem b_keeper_of : BindsP "keeper_of" s_keeper_of ["keeper"] := fun _ _ _ _ _ _ us hl => match us, hl with | [_], _ => rfl
abbrev s_chain_of : Stmt := topS 22
abbrev N_chain_of : List Str := ["keepers", "coming", "keeper"]
theorem sc_chain_of : FnScope N_chain_of ["keepers", "coming"] (defScope s_chain_of) := ⟨rfl, rfl, rfl, by decide +kernel, rfl, by decide +kernel, by decide +kernel⟩
theorem b_chain_of : BindsP "chain_of" s_chain_of ["keepers", "coming"] := fun _ _ _ _ _ _ us hl => match us, hl with | [_, _], _ => rfl
abbrev s_with_keeper : Stmt := topS 23
abbrev N_with_keeper : List Str := ["chain", "place", "keeper", "keepers"]
theorem sc_with_keeper : FnScope N_with_keeper ["chain", "place", "keeper"] (defScope s_with_keeper) := ⟨rfl, rfl, rfl, by decide +kernel, rfl, by decide +kernel, by decide +kernel⟩
theorem b_with_keeper : BindsP "with_keeper" s_with_keeper ["chain", "place", "keeper"] := fun _ _ _ _ _ _ us hl => match us, hl with | [_, _, _], _ => rfl
abbrev s_at_end : Stmt := topS 24
abbrev N_at_end : List Str := ["keeper", "deed", "last", "log"]
theorem sc_at_end : FnScope N_at_end ["keeper", "deed", "last"] (defScope s_at_end) := ⟨rfl, rfl, rfl, by decide +kernel, rfl, by decide +kernel, by decide +kernel⟩
theorem b_at_end : BindsP "at_end" s_at_end ["keeper", "deed", "last"] := fun _ _ _ _ _ _ us hl => match us, hl with | [_, _, _], _ => rfl
abbrev s_take : Stmt := topS 25
abbrev N_take : List Str := ["chain", "deed", "keeper", "same", "one"]
theorem sc_take : FnScope N_take ["chain", "deed"] (defScope s_take) := ⟨rfl, rfl, rfl, by decide +kernel, rfl, by decide +kernel, by decide +kernel⟩
theorem b_take : BindsP "take" s_take ["chain", "deed"] := fun _ _ _ _ _ _ us hl => match us, hl with | [_, _], _ => rfl
abbrev s_ask : Stmt := topS 27
abbrev N_ask : List Str := ["chain", "key"]
theorem sc_ask : FnScope N_ask ["chain", "key"] (defScope s_ask) := ⟨rfl, rfl, rfl, by decide +kernel, rfl, by decide +kernel, by decide +kernel⟩
theorem b_ask : BindsP "ask" s_ask ["chain", "key"] := fun _ _ _ _ _ _ us hl => match us, hl with | [_, _], _ => rfl
abbrev s_steps_of : Stmt := topS 29
abbrev N_steps_of : List Str := ["chain", "places", "found", "place"]
theorem sc_steps_of : FnScope N_steps_of ["chain"] (defScope s_steps_of) := ⟨rfl, rfl, rfl, by decide +kernel, rfl, by decide +kernel, by decide +kernel⟩
theorem b_steps_of : BindsP "steps_of" s_steps_of ["chain"] := fun _ _ _ _ _ _ us hl => match us, hl with | [_], _ => rfl
abbrev s_passed : Stmt := topS 30
abbrev N_passed : List Str := ["chain", "place", "keepers", "giver", "last", "taker"]
theorem sc_passed : FnScope N_passed ["chain", "place"] (defScope s_passed) := ⟨rfl, rfl, rfl, by decide +kernel, rfl, by decide +kernel, by decide +kernel⟩
theorem b_passed : BindsP "passed" s_passed ["chain", "place"] := fun _ _ _ _ _ _ us hl => match us, hl with | [_, _], _ => rfl
abbrev s_backed : Stmt := topS 31
abbrev N_backed : List Str := ["chain", "place", "keepers", "giver", "taker", "sure", "up"]
theorem sc_backed : FnScope N_backed ["chain", "place"] (defScope s_backed) := ⟨rfl, rfl, rfl, by decide +kernel, rfl, by decide +kernel, by decide +kernel⟩
theorem b_backed : BindsP "backed" s_backed ["chain", "place"] := fun _ _ _ _ _ _ us hl => match us, hl with | [_, _], _ => rfl
abbrev s_grown : Stmt := topS 32
abbrev N_grown : List Str := ["keepers", "coming"]
theorem sc_grown : FnScope N_grown ["keepers", "coming"] (defScope s_grown) := ⟨rfl, rfl, rfl, by decide +kernel, rfl, by decide +kernel, by decide +kernel⟩
theorem b_grown : BindsP "grown" s_grown ["keepers", "coming"] := fun _ _ _ _ _ _ us hl => match us, hl with | [_, _], _ => rfl
abbrev s_done : Stmt := topS 33
abbrev N_done : List Str := ["chain", "step"]
theorem sc_done : FnScope N_done ["chain", "step"] (defScope s_done) := ⟨rfl, rfl, rfl, by decide +kernel, rfl, by decide +kernel, by decide +kernel⟩
theorem b_done : BindsP "done" s_done ["chain", "step"] := fun _ _ _ _ _ _ us hl => match us, hl with | [_, _], _ => rfl
abbrev s_joined : Stmt := topS 35
abbrev N_joined : List Str := ["ahead", "behind", "down"]
theorem sc_joined : FnScope N_joined ["ahead", "behind"] (defScope s_joined) := ⟨rfl, rfl, rfl, by decide +kernel, rfl, by decide +kernel, by decide +kernel⟩
theorem b_joined : BindsP "joined" s_joined ["ahead", "behind"] := fun _ _ _ _ _ _ us hl => match us, hl with | [_, _], _ => rfl
abbrev s_made_last : Stmt := topS 36
abbrev N_made_last : List Str := ["keeper", "first", "many", "up"]
theorem sc_made_last : FnScope N_made_last ["keeper", "first"] (defScope s_made_last) := ⟨rfl, rfl, rfl, by decide +kernel, rfl, by decide +kernel, by decide +kernel⟩
theorem b_made_last : BindsP "made_last" s_made_last ["keeper", "first"] := fun _ _ _ _ _ _ us hl => match us, hl with | [_, _], _ => rfl
abbrev s_fall : Stmt := topS 37
abbrev N_fall : List Str := ["chain", "place", "keepers", "many", "ahead", "behind", "both"]
theorem sc_fall : FnScope N_fall ["chain", "place"] (defScope s_fall) := ⟨rfl, rfl, rfl, by decide +kernel, rfl, by decide +kernel, by decide +kernel⟩
theorem b_fall : BindsP "fall" s_fall ["chain", "place"] := fun _ _ _ _ _ _ us hl => match us, hl with | [_, _], _ => rfl
abbrev s_come : Stmt := topS 38
abbrev N_come : List Str := ["chain"]
theorem sc_come : FnScope N_come ["chain"] (defScope s_come) := ⟨rfl, rfl, rfl, by decide +kernel, rfl, by decide +kernel, by decide +kernel⟩
theorem b_come : BindsP "come" s_come ["chain"] := fun _ _ _ _ _ _ us hl => match us, hl with | [_], _ => rfl
abbrev s__law_cell_at : Stmt := topS 40
abbrev N__law_cell_at : List Str := ["_law_script", "_law_k"]
theorem sc__law_cell_at : FnScope N__law_cell_at ["_law_script", "_law_k"] (defScope s__law_cell_at) := ⟨rfl, rfl, rfl, by decide +kernel, rfl, by decide +kernel, by decide +kernel⟩
theorem b__law_cell_at : BindsP "_law_cell_at" s__law_cell_at ["_law_script", "_law_k"] := fun _ _ _ _ _ _ us hl => match us, hl with | [_, _], _ => rfl
abbrev s__law_called : Stmt := topS 41
abbrev N__law_called : List Str := ["_law_kind", "_law_number", "_law_chain"]
theorem sc__law_called : FnScope N__law_called ["_law_kind", "_law_number"] (defScope s__law_called) := ⟨rfl, rfl, rfl, by decide +kernel, rfl, by decide +kernel, by decide +kernel⟩
theorem b__law_called : BindsP "_law_called" s__law_called ["_law_kind", "_law_number"] := fun _ _ _ _ _ _ us hl => match us, hl with | [_, _], _ => rfl
abbrev s__law_kinds : Stmt := topS 42
abbrev N__law_kinds : List Str := ["_law_kind", "_law_number", "e", "_law_found"]
theorem sc__law_kinds : FnScope N__law_kinds ["_law_kind", "_law_number"] (defScope s__law_kinds) := ⟨rfl, rfl, rfl, by decide +kernel, rfl, by decide +kernel, by decide +kernel⟩
theorem b__law_kinds : BindsP "_law_kinds" s__law_kinds ["_law_kind", "_law_number"] := fun _ _ _ _ _ _ us hl => match us, hl with | [_, _], _ => rfl
abbrev s_law : Stmt := topS 43
abbrev N_law : List Str := ["_law_script", "_law_kind", "_law_number", "_law_k"]
theorem sc_law : FnScope N_law ["_law_script"] (defScope s_law) := ⟨rfl, rfl, rfl, by decide +kernel, rfl, by decide +kernel, by decide +kernel⟩
theorem b_law : BindsP "law" s_law ["_law_script"] := fun _ _ _ _ _ _ us hl => match us, hl with | [_], _ => rfl
abbrev YN : List Str := ["KeepError", "BadDeed", "BadKey", "BadTurn", "OtherDeed", "NoStep", "NoKeeper", "OnlyKeeper", "OneComing", "TooMany"]
abbrev XN : List Str := ["BadDeed", "BadKey", "BadTurn", "OtherDeed", "NoStep", "NoKeeper", "OnlyKeeper", "OneComing", "TooMany"]
structure Tx (K : PySem.W.Frag) (mg : Str → Option Value) : Prop where
  z_ValueError : mg "ValueError" = none
  z_all : mg "all" = none
  z_bool : mg "bool" = none
  z_dict : mg "dict" = none
  z_int : mg "int" = none
  z_isinstance : mg "isinstance" = none
  z_len : mg "len" = none
  z_list : mg "list" = none
  z_max : mg "max" = none
  z_range : mg "range" = none
  z_str : mg "str" = none
  z_tuple : mg "tuple" = none
  c_LETTERS : ∃ t, mg "LETTERS" = some (.str "abcdefghijklmnopqrstuvwxyz" t)
  c_MOST_KEEPERS : ∃ t, mg "MOST_KEEPERS" = some (.int 9 t)
  f_is_number : Has K mg "is_number" s_is_number
  f_is_key : Has K mg "is_key" s_is_key
  f_is_deed : Has K mg "is_deed" s_is_deed
  f_done_by : Has K mg "done_by" s_done_by
  f_plainly : Has K mg "plainly" s_plainly
  f_begun : Has K mg "begun" s_begun
  f_keeper_of : Has K mg "keeper_of" s_keeper_of
  f_chain_of : Has K mg "chain_of" s_chain_of
  f_with_keeper : Has K mg "with_keeper" s_with_keeper
  f_at_end : Has K mg "at_end" s_at_end
  f_take : Has K mg "take" s_take
  f_ask : Has K mg "ask" s_ask
  f_steps_of : Has K mg "steps_of" s_steps_of
  f_passed : Has K mg "passed" s_passed
  f_backed : Has K mg "backed" s_backed
  f_grown : Has K mg "grown" s_grown
  f_done : Has K mg "done" s_done
  f_joined : Has K mg "joined" s_joined
  f_made_last : Has K mg "made_last" s_made_last
  f_fall : Has K mg "fall" s_fall
  f_come : Has K mg "come" s_come
  f__law_cell_at : Has K mg "_law_cell_at" s__law_cell_at
  f__law_called : Has K mg "_law_called" s__law_called
  f__law_kinds : Has K mg "_law_kinds" s__law_kinds
  g_KeepError : mg "KeepError" = some (.ref (He.ga K "KeepError"))
  x_KeepError : PySem.W.excIn K (He.ga K "KeepError") He.veBase "ValueError.__new__" = true ∧ PySem.W.keepIn K (.ref (He.ga K "KeepError")) = true ∧ PySem.W.subIn K (.ref (He.ga K "KeepError")) (.type "BaseException") = some true ∧ PySem.W.typeIn K (.ref (He.ga K "KeepError")) = some (.type "type")
  g_BadDeed : mg "BadDeed" = some (.ref (He.ga K "BadDeed"))
  x_BadDeed : PySem.W.excIn K (He.ga K "BadDeed") He.veBase "ValueError.__new__" = true ∧ PySem.W.keepIn K (.ref (He.ga K "BadDeed")) = true ∧ PySem.W.subIn K (.ref (He.ga K "BadDeed")) (.type "BaseException") = some true ∧ PySem.W.typeIn K (.ref (He.ga K "BadDeed")) = some (.type "type")
  g_BadKey : mg "BadKey" = some (.ref (He.ga K "BadKey"))
  x_BadKey : PySem.W.excIn K (He.ga K "BadKey") He.veBase "ValueError.__new__" = true ∧ PySem.W.keepIn K (.ref (He.ga K "BadKey")) = true ∧ PySem.W.subIn K (.ref (He.ga K "BadKey")) (.type "BaseException") = some true ∧ PySem.W.typeIn K (.ref (He.ga K "BadKey")) = some (.type "type")
  g_BadTurn : mg "BadTurn" = some (.ref (He.ga K "BadTurn"))
  x_BadTurn : PySem.W.excIn K (He.ga K "BadTurn") He.veBase "ValueError.__new__" = true ∧ PySem.W.keepIn K (.ref (He.ga K "BadTurn")) = true ∧ PySem.W.subIn K (.ref (He.ga K "BadTurn")) (.type "BaseException") = some true ∧ PySem.W.typeIn K (.ref (He.ga K "BadTurn")) = some (.type "type")
  g_OtherDeed : mg "OtherDeed" = some (.ref (He.ga K "OtherDeed"))
  x_OtherDeed : PySem.W.excIn K (He.ga K "OtherDeed") He.veBase "ValueError.__new__" = true ∧ PySem.W.keepIn K (.ref (He.ga K "OtherDeed")) = true ∧ PySem.W.subIn K (.ref (He.ga K "OtherDeed")) (.type "BaseException") = some true ∧ PySem.W.typeIn K (.ref (He.ga K "OtherDeed")) = some (.type "type")
  g_NoStep : mg "NoStep" = some (.ref (He.ga K "NoStep"))
  x_NoStep : PySem.W.excIn K (He.ga K "NoStep") He.veBase "ValueError.__new__" = true ∧ PySem.W.keepIn K (.ref (He.ga K "NoStep")) = true ∧ PySem.W.subIn K (.ref (He.ga K "NoStep")) (.type "BaseException") = some true ∧ PySem.W.typeIn K (.ref (He.ga K "NoStep")) = some (.type "type")
  g_NoKeeper : mg "NoKeeper" = some (.ref (He.ga K "NoKeeper"))
  x_NoKeeper : PySem.W.excIn K (He.ga K "NoKeeper") He.veBase "ValueError.__new__" = true ∧ PySem.W.keepIn K (.ref (He.ga K "NoKeeper")) = true ∧ PySem.W.subIn K (.ref (He.ga K "NoKeeper")) (.type "BaseException") = some true ∧ PySem.W.typeIn K (.ref (He.ga K "NoKeeper")) = some (.type "type")
  g_OnlyKeeper : mg "OnlyKeeper" = some (.ref (He.ga K "OnlyKeeper"))
  x_OnlyKeeper : PySem.W.excIn K (He.ga K "OnlyKeeper") He.veBase "ValueError.__new__" = true ∧ PySem.W.keepIn K (.ref (He.ga K "OnlyKeeper")) = true ∧ PySem.W.subIn K (.ref (He.ga K "OnlyKeeper")) (.type "BaseException") = some true ∧ PySem.W.typeIn K (.ref (He.ga K "OnlyKeeper")) = some (.type "type")
  g_OneComing : mg "OneComing" = some (.ref (He.ga K "OneComing"))
  x_OneComing : PySem.W.excIn K (He.ga K "OneComing") He.veBase "ValueError.__new__" = true ∧ PySem.W.keepIn K (.ref (He.ga K "OneComing")) = true ∧ PySem.W.subIn K (.ref (He.ga K "OneComing")) (.type "BaseException") = some true ∧ PySem.W.typeIn K (.ref (He.ga K "OneComing")) = some (.type "type")
  g_TooMany : mg "TooMany" = some (.ref (He.ga K "TooMany"))
  x_TooMany : PySem.W.excIn K (He.ga K "TooMany") He.veBase "ValueError.__new__" = true ∧ PySem.W.keepIn K (.ref (He.ga K "TooMany")) = true ∧ PySem.W.subIn K (.ref (He.ga K "TooMany")) (.type "BaseException") = some true ∧ PySem.W.typeIn K (.ref (He.ga K "TooMany")) = some (.type "type")
  cls : ClsOk K XN YN
local macro_rules | `(tactic| k_memK) => `(tactic| first
  | with_reducible exact ev_int
  | with_reducible exact ev_str
  | with_reducible exact ev_bl
  | with_reducible exact ev_non
  | with_reducible exact ea_nil
  | with_reducible exact eo_none
  | with_reducible exact et_yes
  | ((with_reducible apply ev_var); rfl)
  | ((with_reducible apply ea_cons); k_memK; k_memK)
  | ((with_reducible apply ev_head); kas_types)
  | ((with_reducible apply ev_ixOwn); rfl; k_memK; k_allIn)
  | ((with_reducible apply ev_inR); k_memK; k_memK)
  | ((with_reducible apply ev_notInR); k_memK; k_memK)
  | ((with_reducible apply ev_op); k_memK; k_memK; k_subL)
  | ((with_reducible apply ev_un); k_memK; exact ru_neg)
  | ((with_reducible apply ev_tup); k_memK; k_ownIn)
  | ((with_reducible apply ev_lst); k_memK; k_ownIn)
  | ((with_reducible apply ev_isiIntB); k_memK; assumption)
  | ((with_reducible apply ev_isiInt); k_memK)
  | ((with_reducible apply ev_isiBoolB); k_memK; assumption)
  | ((with_reducible apply ev_isiBool); k_memK)
  | ((with_reducible apply ev_isiStrB); k_memK; assumption)
  | ((with_reducible apply ev_isiStr); k_memK)
  | ((with_reducible apply ev_isiListB); k_memK; assumption)
  | ((with_reducible apply ev_isiList); k_memK)
  | ((with_reducible apply ev_isiTupB); k_memK; assumption)
  | ((with_reducible apply ev_isiTup); k_memK)
  | ((with_reducible apply ev_isiDictB); k_memK; assumption)
  | ((with_reducible apply ev_isiDict); k_memK)
  | ((with_reducible apply ev_cb); k_memK; k_clsL)
  | ((with_reducible apply ev_sl); k_memK; k_memK; k_memK; k_offL)
  | ((with_reducible apply eo_some); k_memK)
  | ((with_reducible apply ev_bm); k_memK; k_memK; k_places)
  | ((with_reducible apply et_test); k_memK)
  | ((with_reducible apply et_B); k_memK)
  | ((with_reducible apply et_not); k_memK)
  | ((with_reducible apply et_and); k_memK; first | (intro _; k_memK) | exact et_no rfl)
  | ((with_reducible apply et_or); k_memK; first | (intro _; k_memK) | exact et_noO rfl)
  | ((with_reducible apply ev_andV); k_memK; first | (intro _; k_memK) | exact ev_no rfl)
  | ((with_reducible apply ev_orV); k_memK; first | (intro _; k_memK) | exact ev_noO rfl)
  | ((with_reducible apply ev_notV); k_memK))
local macro_rules | `(tactic| k_subL) => `(tactic| first
  | with_reducible exact rv_addI
  | with_reducible exact rv_sub
  | ((with_reducible apply rv_mulI); tlg_ne)
  | ((with_reducible apply rv_modP); first | decide | omega)
  | ((with_reducible apply rv_fdivP); first | exact ⟨by decide, by decide⟩ | exact ⟨by omega, by omega⟩)
  | ((with_reducible apply rv_pow); lcg_off)
  | with_reducible exact rv_lt
  | with_reducible exact rv_gt
  | with_reducible exact rv_le
  | with_reducible exact rv_ge
  | with_reducible exact rv_eqI
  | with_reducible exact rv_neI
  | with_reducible exact rv_eqB
  | with_reducible exact rv_neB
  | ((with_reducible apply rv_eqS) <;> lcg_sub)
  | ((with_reducible apply rv_neS) <;> lcg_sub)
  | ((with_reducible apply rv_eqNil); lcg_src)
  | ((with_reducible apply rv_neNil); lcg_src)
  | with_reducible exact rv_isN
  | with_reducible exact rv_notN
  | with_reducible exact rv_isB
  | ((with_reducible apply rv_ixT); k_allIn)
  | ((with_reducible apply rv_ixL); k_allIn)
  | ((with_reducible apply rv_ixS); k_ownIn; k_allIn)
  | ((with_reducible apply rv_addS); k_ownIn)
  | ((with_reducible apply rv_addT); k_ownIn)
  | ((with_reducible apply RvN.d); (with_reducible apply rvN_addL); k_ownIn)
  | with_reducible exact rv_inS
  | ((with_reducible apply rv_inT) <;> rfl)
  | ((with_reducible apply rv_notInT) <;> rfl))
local macro_rules | `(tactic| tlg_ne) => `(tactic| first
  | exact .inr ⟨by decide, by decide⟩
  | exact .inl ⟨by decide, by decide⟩
  | exact .inr ⟨by omega, by omega⟩
  | exact .inl ⟨by omega, by omega⟩)
local macro_rules | `(tactic| k_clsL) => `(tactic| first
  | with_reducible exact rc_lenL
  | with_reducible exact rc_lenT
  | ((with_reducible apply rc_lenS); k_ownIn)
  | with_reducible exact rc_max2
  | with_reducible exact rc_min2
  | with_reducible exact rc_intB
  | ((with_reducible apply RcN.d); with_reducible exact rcN_listL)
  | ((with_reducible apply RcN.d); with_reducible exact rcN_listT))
local macro_rules | `(tactic| k_offL) => `(tactic| first
  | ((with_reducible apply RsN.d); with_reducible exact rsN_L)
  | with_reducible exact rs_T
  | ((with_reducible apply rs_S); k_ownIn))
local macro_rules | `(tactic| k_places) => `(tactic| first
  | with_reducible exact rm_findK
  | with_reducible exact rm_countK
  | ((with_reducible apply rm_joinK); k_ownIn))
local macro_rules | `(tactic| k_allIn) => `(tactic| first | assumption | (with_reducible exact atI_cons0) | rfl)
local macro_rules | `(tactic| k_ownIn) => `(tactic| first | (exact sz_dec (Nat.le_of_ble_eq_true rfl)) | assumption | (exact sz_dec (by omega)) | (exact sz_dec (by simp; omega)))
local macro_rules | `(tactic| lcg_sub) => `(tactic| first | assumption | decide +kernel)
local macro_rules | `(tactic| lcg_src) => `(tactic| first | assumption | (exact ⟨_, by decide, by assumption⟩))
/-- statements -/
local macro_rules | `(tactic| l_intsC) => `(tactic| (k_updF; (with_reducible apply at_setA); (k_memK); (k_intsEnd)))
local macro_rules | `(tactic| k_updF) => `(tactic| repeat (first | (with_reducible apply at_seq) | (with_reducible apply at_next)))
local macro_rules | `(tactic| kxs_still) => `(tactic| (k_updF; (with_reducible apply at_ret); (k_memK)))
local macro_rules | `(tactic| l_intsW) => `(tactic| (k_updF; (with_reducible apply at_if); (k_memK)))
local macro_rules | `(tactic| kc_close) => `(tactic| (k_updF; (refine' at_rt ?h ?e (by assumption)); (case h => k_memK)))
local macro_rules | `(tactic| lcg_off) => `(tactic| exact ⟨by decide, by decide, by first | decide | omega⟩)
local macro_rules | `(tactic| kas_types) => `(tactic| first
  | keq_rows
  | ((with_reducible apply ev_mixed); k_memK; k_memK)
  | ((with_reducible apply ev_cell_at); k_memK; k_memK; first | decide | omega)
  | ((with_reducible apply ev_is_numberB (b := true)); k_memK; keq_hits)
  | ((with_reducible apply ev_is_numberB (b := false)); k_memK; keq_hits)
  | ((with_reducible apply ev_is_number); k_memK)
  | ((with_reducible apply ev_is_keyB (b := true)); k_memK; k_upd; keq_hits)
  | ((with_reducible apply ev_is_keyB (b := false)); k_memK; k_upd; keq_hits)
  | ((with_reducible apply ev_is_key); k_memK; k_upd))
local macro_rules | `(tactic| keq_hits) => `(tactic| first | assumption | rfl)
local macro_rules | `(tactic| k_upd) => `(tactic| first | assumption | exact And.left (by assumption) | trivial)
local macro_rules | `(tactic| k_intsEnd) => `(tactic| repeat (first | exact SetAt.zero | apply SetAt.succ))
local macro_rules | `(tactic| k_caught0) => `(tactic| (apply at_nf; rotate_left; (repeat (first | exact Nf.nil | apply Nf.cons))))
/-- what is one's own -/
local macro_rules | `(tactic| is_list) => `(tactic| first
  | ((with_reducible apply em_tup); is_tup; k_ownIn)
  | ((with_reducible apply em_lst); is_tup; k_ownIn)
  | with_reducible exact em_var rfl
  | (refine em_own rfl ?_; end_int)
  | with_reducible exact em_ownD rfl
  | end_str
  | (refine em_d ?_ ?_; k_memK; end_int))
local macro_rules | `(tactic| is_tup) => `(tactic| first
  | with_reducible exact ems_nil
  | ((with_reducible apply ems_cons); is_list; is_tup; decide))
local macro_rules | `(tactic| end_int) => `(tactic| first | assumption | rfl | exact noL_dd | exact noLs_map (fun _ => noL_dd) _ | exact noLs_map (fun _ => rfl) _)
local macro_rules | `(tactic| end_none) => `(tactic| (k_updF; (refine' at_rtO ?h ?e (by assumption)); (case h => is_list)))


section
variable {P : Program} {w : World} {K : PySem.W.Frag} {mg : Str → Option Value} {base : Heap}
theorem ok_is_number (T : Tx K mg) : Def P w K mg base CX0 1 "is_number" ["thing"] (spP 1 R_is_number) := by
  refine mkP T.f_is_number b_is_number sc_is_number rfl fun f cdv A outer s H E hr => ⟨_, (pss_one (ps_ret (pe_and (pe_callB (isi_K K) (by rfl) T.z_isinstance (by decide +kernel) (pa_cons (pv 0) (pa_cons (pe_bltn (v := .ty "int") (by rfl) T.z_int (by decide +kernel) rfl) pa_nil))) (pe_one (pe_not (pe_callB (isi_K K) (by rfl) T.z_isinstance (by decide +kernel) (pa_cons (pv 0) (pa_cons (pe_bltn (v := .ty "bool") (by rfl) T.z_bool (by decide +kernel) rfl) pa_nil)))))))), ?_⟩
  rintro ds d B Q hl ⟨x, rfl, rfl⟩ q
  kxs_still
  exact q

theorem ok_is_key (T : Tx K mg) : Def P w K mg base CX0 1 "is_key" ["thing"] (spP 1 R_is_key) := by
  refine mkP T.f_is_key b_is_key sc_is_key rfl fun f cdv A outer s H E hr => ⟨_, (pss_cons (ps_if (PW.pt (pw_or (pt_not (pt_val (pe_callB (isi_K K) (by rfl) T.z_isinstance (by decide +kernel) (pa_cons (pv 0) (pa_cons (pe_bltn (v := .ty "str") (by rfl) T.z_str (by decide +kernel) rfl) pa_nil))))) (pw_or (pt_cmpR op_lt (pe_callB (len_K K) (by rfl) T.z_len (by decide +kernel) (pa_cons (pv 0) pa_nil)) pe_int (nomark _)) (pw_or1 (pt_cmpR op_gt (pe_callB (len_K K) (by rfl) T.z_len (by decide +kernel) (pa_cons (pv 0) pa_nil)) pe_int (nomark _))))))
      (pss_one (ps_ret pe_bl))
      pss_nil)
      (pss_one (ps_ret (pe_callB (all_K K rfl) (by rfl) T.z_all (by decide +kernel) (pa_cons (pe_lc (own := [("sign", 1)]) (g := gName 1) (by rfl) sc_is_key.nd (pi_str (pv 0)) (blkOk_by (own := [("sign", 1)]) (N := N_is_key) (sc := defScope s_is_key) (by decide +kernel)) (fun _ _ _ _ _ => pg_name (i := 1) sc_is_key.nd rfl (Or.inl rfl)) (fun _ _ _ _ _ => pts_nil) (fun _ _ _ _ _ => (pe_cmpR (op_inK K (hu65 hr)) (pv 1) (pe_gstr T.c_LETTERS) (by with_unfolding_all rfl)))) pa_nil))))), ?_⟩
  rintro ds d B Q hl ⟨x, rfl, hs, rfl⟩ q
  cases x with
  | str z =>
    have hz : z.length ≤ sizeLine := sz_dec hs
    l_intsW
    · intro hb
      kxs_still
      rw [show isKeyD (.str z) = false by
        have hb' : (decide ((z.length : Int) < 1) || decide (8 < (z.length : Int))) = true := hb
        rw [Bool.or_eq_true, decide_eq_true_eq, decide_eq_true_eq] at hb'
        show (decide (1 ≤ z.length) && (decide (z.length ≤ 8) && lowD z)) = false
        rcases hb' with h | h
        · rw [decide_eq_false (by omega)]; rfl
        · rw [decide_eq_false (p := z.length ≤ 8) (by omega)]; simp] at q
      exact q
    · intro hb
      have hb' : (decide ((z.length : Int) < 1) || decide (8 < (z.length : Int))) = false := hb
      rw [Bool.or_eq_false_iff, decide_eq_false_iff_not, decide_eq_false_iff_not] at hb'
      apply at_next
      refine at_rt (d := .bool ((z.cps.toList.map fun c => decide (c ∈ LETTERS.cps.toList)).all id)) ?_ ?_ q
      · refine ev_cb (ea_cons (EvN.ev (evN_lcm (j := 1) sg z.cps.toList (fun c => .bool (decide (c ∈ LETTERS.cps.toList))) rfl (ei_str (by k_memK)) ?_ fun c hc => ?_)) ea_nil) ?_
        · have : z.cps.toList.length = z.length := by simp [Str.length]
          rw [this]; exact hz
        · refine ev_op (ev_var rfl) ev_str rv_inS
        · rw [show (z.cps.toList.map fun c => PyData.bool (decide (c ∈ LETTERS.cps.toList))) = (z.cps.toList.map fun c => decide (c ∈ LETTERS.cps.toList)).map PyData.bool by rw [List.map_map]; rfl]
          exact rc_all
      · have h : isKeyD (.str z) = lowD z := by
          show (decide (1 ≤ z.length) && (decide (z.length ≤ 8) && lowD z)) = lowD z
          rw [decide_eq_true (by omega), decide_eq_true (p := z.length ≤ 8) (by omega)]; rfl
        rw [h, List.all_map]; rfl
  | _ =>
    l_intsW
    · intro hb
      kxs_still
      exact q
    · intro hb; cases hb

theorem ok_is_deed (T : Tx K mg) : Def P w K mg base CX0 2 "is_deed" ["thing"] (spP 1 R_is_deed) := by
  refine mkP T.f_is_deed b_is_deed sc_is_deed rfl fun f cdv A outer s H E hr => ⟨_, (pss_cons (ps_if (PW.pt (pw_or (pt_not (pt_val (pe_callB (isi_K K) (by rfl) T.z_isinstance (by decide +kernel) (pa_cons (pv 0) (pa_cons (pe_bltn (v := .ty "tuple") (by rfl) T.z_tuple (by decide +kernel) rfl) pa_nil))))) (pw_or1 (pt_cmpR (op_neK K (hu64 hr)) (pe_callB (len_K K) (by rfl) T.z_len (by decide +kernel) (pa_cons (pv 0) pa_nil)) pe_int (nomark _)))))
      (pss_one (ps_ret pe_bl))
      pss_nil)
      (pss_cons (ps_if (PW.pt (pw_or (pt_not (pt_val (pe_callD (ok_is_number T) hr (pa_cons (pe_ix (ix_K K) (pv 0) pe_int (fun _ _ => rfl)) pa_nil)))) (pw_or (pt_cmpR op_lt (pe_ix (ix_K K) (pv 0) pe_int (fun _ _ => rfl)) pe_int (nomark _)) (pw_or (pt_cmpR op_gt (pe_ix (ix_K K) (pv 0) pe_int (fun _ _ => rfl)) pe_int (nomark _)) (pw_or (pt_not (pt_val (pe_callD (ok_is_number T) hr (pa_cons (pe_ix (ix_K K) (pv 0) pe_int (fun _ _ => rfl)) pa_nil)))) (pw_or1 (pt_cmpR op_lt (pe_ix (ix_K K) (pv 0) pe_int (fun _ _ => rfl)) pe_int (nomark _))))))))
      (pss_one (ps_ret pe_bl))
      pss_nil)
      (pss_cons (ps_if (PW.pt (pw_or (pt_not (pt_val (pe_callD (ok_is_key T) hr (pa_cons (pe_ix (ix_K K) (pv 0) pe_int (fun _ _ => rfl)) pa_nil)))) (pw_or (pt_not (pt_val (pe_callD (ok_is_number T) hr (pa_cons (pe_ix (ix_K K) (pv 0) pe_int (fun _ _ => rfl)) pa_nil)))) (pw_or1 (pt_not (pt_val (pe_callB (isi_K K) (by rfl) T.z_isinstance (by decide +kernel) (pa_cons (pe_ix (ix_K K) (pv 0) pe_int (fun _ _ => rfl)) (pa_cons (pe_bltn (v := .ty "str") (by rfl) T.z_str (by decide +kernel) rfl) pa_nil)))))))))
      (pss_one (ps_ret pe_bl))
      pss_nil)
      (pss_one (ps_ret (pe_or (pe_cmpR (op_inK K (hu65 hr)) (pe_ix (ix_K K) (pv 0) pe_int (fun _ _ => rfl)) (pe_tup (pa_cons pe_str (pa_cons pe_str (pa_cons pe_str pa_nil)))) (by with_unfolding_all rfl)) (pe_one (pe_and (pe_cmpR (op_eqK K (hu64 hr)) (pe_ix (ix_K K) (pv 0) pe_int (fun _ _ => rfl)) pe_str (nomark _)) (pe_one (pe_cmpR (op_eqK K (hu64 hr)) (pe_ix (ix_K K) (pv 0) pe_int (fun _ _ => rfl)) pe_int (nomark _))))))))))), ?_⟩
  rintro ds d B Q hl ⟨x, rfl, hs, rfl⟩ q
  rcases tup_or x with ⟨a, t, w, k, v, rfl⟩ | ⟨ds, rfl, hd⟩ | hx
  · have ha := hs a (by simp)
    have ht := hs t (by simp)
    have hw := hs w (by simp)
    have hk := hs k (by simp)
    have hv := hs v (by simp)
    l_intsW
    · intro hb; cases hb
    · intro _
      rcases num_or a with ⟨ai, rfl⟩ | hna
      · rcases num_or t with ⟨ti, rfl⟩ | hnt
        · l_intsW
          · intro hb
            kc_close
            simp only [Bool.not_true, Bool.false_or, Bool.or_eq_true, decide_eq_true_eq] at hb
            rw [show isDeedD (.tuple [.int ai, .int ti, w, k, v]) = false from isDeed5_no hb]
          · intro hb
            simp only [Bool.not_true, Bool.false_or, Bool.or_eq_false_iff, decide_eq_false_iff_not] at hb
            rcases num_or v with ⟨vi, rfl⟩ | hnv
            · rcases str_or w with ⟨ws, rfl⟩ | hsw
              · have hws : PyData.strOk ws = true := hw.2
                l_intsW
                · intro hb2
                  kc_close
                  have hk0 : isKeyD k = false := by simpa [isStrD] using hb2
                  rw [show isDeedD (.tuple [.int ai, .int ti, .str ws, k, .int vi]) = false from isDeed5_k (a := .int ai) (t := .int ti) (v := .int vi) hk0]
                · intro hb2
                  have hk1 : isKeyD k = true := by simpa [isStrD] using hb2
                  kc_close
                  rw [show isDeedD (.tuple [.int ai, .int ti, .str ws, k, .int vi]) = isWordS ws vi from isDeed5_w1 hb hk1]
                  exact congrArg PyData.bool (isWordS_eq ws vi)
              · l_intsW
                · intro _
                  kc_close
                  rw [show isDeedD (.tuple [.int ai, .int ti, w, k, .int vi]) = false from isDeed5_w hsw]
                · intro hb2
                  exfalso
                  simp [hsw] at hb2
            · l_intsW
              · intro _
                kc_close
                rw [show isDeedD (.tuple [.int ai, .int ti, w, k, v]) = false from isDeed5_v hnv]
              · intro hb2
                exfalso
                simp at hb2
        · l_intsW
          · intro _
            kc_close
            rw [show isDeedD (.tuple [.int ai, t, w, k, v]) = false from isDeed5_t hnt]
          · intro hb
            exfalso
            simp at hb
      · l_intsW
        · intro _
          kc_close
          rw [show isDeedD (.tuple [a, t, w, k, v]) = false from isDeed5_a hna]
        · intro hb; cases hb
  · l_intsW
    · intro hb
      kc_close
      rw [isDeed_len hd]
    · intro hb
      exfalso
      rw [show isTupD (.tuple ds) = true from rfl] at hb
      simp at hb
      omega
  · l_intsW
    · intro _
      kc_close
      rw [isDeed_tup hx]
    · intro hb; cases hb

theorem ok_done_by (T : Tx K mg) : Def P w K mg base CX0 1 "done_by" ["store", "deed"] (fun _ _ _ _ => False) := mkF T.f_done_by b_done_by sc_done_by

theorem ok_plainly (T : Tx K mg) : Def P w K mg base CX0 2 "plainly" ["deeds"] (fun _ _ _ _ => False) := mkF T.f_plainly b_plainly sc_plainly

theorem ok_begun (T : Tx K mg) : Def P w K mg base (L2.CX P w) 1 "begun" ["many"] (spW WO K 1 R_begun) := by
  refine mkX T.f_begun b_begun sc_begun rfl fun f cdv A outer s H E hr => ⟨_, (pss_cons (ps_if (PW.pt (pw_or (pt_cmpR op_lt (pv 0) pe_int (nomark _)) (pw_or1 (pt_cmpR op_gt (pv 0) (pe_gint T.c_MOST_KEEPERS) (nomark _)))))
      (pss_one (ps_raise rfl (takes_of rfl rfl rfl rfl) (pmk_own PySem.F.excBase_ValueError T.x_TooMany.1 T.g_TooMany T.x_TooMany.2.1 (raises_own T.x_TooMany.2.2.1 T.x_TooMany.2.2.2) (by exact rfl))))
      pss_nil)
      (pss_one (ps_ret (pe_tup (pa_cons (pe_lc (own := [("place", 1)]) (g := gName 1) (by rfl) sc_begun.nd (pi_range1 (by rfl) T.z_range (pa_cons (pv 0) pa_nil)) (blkOk_by (own := [("place", 1)]) (N := N_begun) (sc := defScope s_begun) (by decide +kernel)) (fun _ _ _ _ _ => pg_name (i := 1) sc_begun.nd rfl (Or.inl rfl)) (fun _ _ _ _ _ => pts_nil) (fun _ _ _ _ _ => (pe_tup (pa_cons (pe_lst pa_nil) (pa_cons pe_int (pa_cons (pe_lst pa_nil) (pa_cons (pe_lst pa_nil) pa_nil))))))) (pa_cons pe_non pa_nil)))))), ?_⟩
  rintro ds o B Q hl ⟨n, rfl, rfl⟩ q
  l_intsW
  · intro hb
    have h : n < 1 ∨ 9 < n := by simpa using hb
    unfold begunO at q
    rw [if_pos h] at q
    exact at_xq q
  · intro hb
    have h : ¬ (n < 1 ∨ 9 < n) := by simpa using hb
    unfold begunO at q
    rw [if_neg h] at q
    have q' : RtO B Q _ := q
    k_updF
    refine at_rtO (S := []) (em_tup (ems_cons (S1 := []) (S2 := []) (em_lcm (j := 1) (fun i : Nat => .int (0 + i)) (List.range n.toNat) (fun _ => nilK.e) rfl (ei_rng1 (by k_memK) (by omega) (by omega)) ?_ fun x hx => ?_) (ems_cons (S1 := []) (S2 := []) (em_d ev_non rfl) ems_nil (by decide)) (by decide)) (by k_ownIn)) ?_ q'
    · rw [List.length_range]; exact sz_dec (by omega)
    · show EvM _ _ [] (.tuple [.list [], .int 0, .list [], .list []])
      apply em_S
      · is_list
      · rfl
    · rw [List.map_const', List.length_range]
      show _ = PyData.tuple [.list ((List.replicate n.toNat nilK).map Kp.e), .none]
      rw [List.map_replicate]

theorem ok_keeper_of (T : Tx K mg) : Def P w K mg base CX0 1 "keeper_of" ["keeper"] (spW WO K 1 R_keeper_of) := by
  refine mkW T.f_keeper_of b_keeper_of sc_keeper_of rfl fun f cdv A outer s H E hr => ⟨_, (pss_one (ps_ret (pe_tup (pa_cons (pe_callTy (list_K K) (by rfl) T.z_list (by decide +kernel) (pa_cons (pe_ix (ix_K K) (pv 0) pe_int (fun _ _ => rfl)) pa_nil)) (pa_cons (pe_ix (ix_K K) (pv 0) pe_int (fun _ _ => rfl)) (pa_cons (pe_callTy (list_K K) (by rfl) T.z_list (by decide +kernel) (pa_cons (pe_ix (ix_K K) (pv 0) pe_int (fun _ _ => rfl)) pa_nil)) (pa_cons (pe_callTy (list_K K) (by rfl) T.z_list (by decide +kernel) (pa_cons (pe_ix (ix_K K) (pv 0) pe_int (fun _ _ => rfl)) pa_nil)) pa_nil))))))), ?_⟩
  rintro ds o B Q hl ⟨⟨l, s0, dn, up⟩, rfl, rfl⟩ q
  have q' : RtO B Q _ := q
  dsimp only [Kp.e]
  k_updF
  refine at_rtO (S := []) (em_tup (ems_cons (S1 := []) (S2 := []) (em_N (ds := l.map Dd.e) (evN_cb (xs := [.list (l.map Dd.e)]) (by k_memK) rcN_listL) (by end_int)) (ems_cons (S1 := []) (S2 := []) (em_d (by k_memK) rfl) (ems_cons (S1 := []) (S2 := []) (em_N (ds := dn.map Dd.e) (evN_cb (xs := [.list (dn.map Dd.e)]) (by k_memK) rcN_listL) (by end_int))
    (ems_cons (S1 := []) (S2 := []) (em_N (ds := up.map .int) (evN_cb (xs := [.list (up.map .int)]) (by k_memK) rcN_listL) (by end_int)) ems_nil (by decide)) (by decide)) (by decide)) (by decide)) (by k_ownIn)) rfl q'

theorem ok_chain_of (T : Tx K mg) : Def P w K mg base CX0 2 "chain_of" ["keepers", "coming"] (spW WO K 2 R_chain_of) := by
  refine mkW T.f_chain_of b_chain_of sc_chain_of rfl fun f cdv A outer s H E hr => ⟨_, (pss_cons (ps_if (pt_cmpR op_notN' (pv 1) pe_non (nomark _))
      (pss_one (ps_set (i := 1) sc_chain_of.nd rfl (Or.inl rfl) (pe_callTy (list_K K) (by rfl) T.z_list (by decide +kernel) (pa_cons (pv 1) pa_nil))))
      pss_nil)
      (pss_one (ps_ret (pe_tup (pa_cons (pe_lc (own := [("keeper", 2)]) (g := gName 2) (by rfl) sc_chain_of.nd (pi_listK K (pv 0)) (blkOk_by (own := [("keeper", 2)]) (N := N_chain_of) (sc := defScope s_chain_of) (by decide +kernel)) (fun _ _ _ _ _ => pg_name (i := 2) sc_chain_of.nd rfl (Or.inl rfl)) (fun _ _ _ _ _ => pts_nil) (fun _ _ _ _ _ => (pe_callD (ok_keeper_of T) hr (pa_cons (pv 2) pa_nil)))) (pa_cons (pv 1) pa_nil)))))), ?_⟩
  rintro ds o B Q hl ⟨⟨ks, co⟩, rfl, hz, rfl⟩ q
  have q' : RtO B Q _ := q
  have hz0 : ks.length ≤ 1001 := hz
  have hz' : ks.length ≤ sizeLine := sz_dec (by omega)
  cases co with
  | none =>
    l_intsW
    · intro hb; cases hb
    · intro _
      k_updF
      refine at_rtO (S := []) (em_tup (ems_cons (S1 := []) (S2 := []) (em_lcm (j := 2) Kp.e ks Kp.e rfl (ei_list (by k_memK)) hz' fun x hx => em_keeper_of (ev_var rfl)) (ems_cons (S1 := []) (S2 := []) (em_d (by k_memK) rfl) ems_nil (by decide)) (by decide)) (by k_ownIn)) rfl q'
  | some l =>
    l_intsW
    · intro _
      k_updF
      refine at_setNA (i := 1) (ds := l.map Dd.e) (evN_cb (xs := [.list (l.map Dd.e)]) (by k_memK) rcN_listL) (by k_intsEnd) ?_
      k_updF
      refine at_rtO (S := [1]) (em_tup (ems_cons (S1 := []) (S2 := [1]) (em_lcm (j := 2) Kp.e ks Kp.e rfl (ei_list (by k_memK)) hz' fun x hx => em_keeper_of (ev_var rfl)) (ems_cons (S1 := [1]) (S2 := []) (em_own (i := 1) rfl (by end_int)) ems_nil (by decide)) (by decide)) (by k_ownIn)) rfl q'
    · intro hb; cases hb

theorem ok_with_keeper (T : Tx K mg) : Def P w K mg base CX0 3 "with_keeper" ["chain", "place", "keeper"] (spW WO K 3 R_with_keeper) := by
  refine mkW T.f_with_keeper b_with_keeper sc_with_keeper rfl fun f cdv A outer s H E hr => ⟨_, (pss_cons (ps_set (i := 3) sc_with_keeper.nd rfl (Or.inl rfl) (pe_callTy (list_K K) (by rfl) T.z_list (by decide +kernel) (pa_cons (pe_ix (ix_K K) (pv 0) pe_int (fun _ _ => rfl)) pa_nil)))
      (pss_cons (ps_asg (pv 2) (pg_sub (pv 3) (pv 1) set_list))
      (pss_one (ps_ret (pe_callD (ok_chain_of T) hr (pa_cons (pv 3) (pa_cons (pe_ix (ix_K K) (pv 0) pe_int (fun _ _ => rfl)) pa_nil))))))), ?_⟩
  rintro ds o B Q hl ⟨⟨ks, co⟩, p, k, rfl, hp, hc, rfl⟩ q
  have q' : RtO B Q _ := q
  have hl : ks.length ≤ 1000 := hc.lk
  dsimp only [Ch.e]
  k_updF
  refine at_setNA (i := 3) (ds := ks.map Kp.e) (evN_cb (xs := [.list (ks.map Kp.e)]) (by k_memK) rcN_listL) (by k_intsEnd) ?_
  k_updF
  refine at_setitemA (i := 3) (j := p) (n := (p : Int)) rfl (ev_var rfl) (ev_var rfl) (ixN_of (by rw [List.length_map]; exact hp)) (by k_intsEnd) ?_
  rw [← List.map_set]
  k_updF
  refine at_rtO (S := []) (em_fz (em_chain_of (c := ⟨ks.set p k, co⟩) (ev_var rfl) (by k_memK) (by rw [List.length_set]; omega))) rfl q'

theorem ok_at_end (T : Tx K mg) : Def P w K mg base CX0 1 "at_end" ["keeper", "deed", "last"] (spW WD K 3 R_at_end) := by
  refine mkW T.f_at_end b_at_end sc_at_end rfl fun f cdv A outer s H E hr => ⟨_, (pss_cons (ps_set (i := 3) sc_at_end.nd rfl (Or.inl rfl) (pe_op (op_addK K) (pe_ix (ix_K K) (pv 0) pe_int (fun _ _ => rfl)) (pe_lst (pa_cons (pv 1) pa_nil))))
      (pss_cons (ps_if (pt_val (pv 2))
      (pss_one (ps_ret (pe_tup (pa_cons (pv 3) (pa_cons (pe_callB (len_K K) (by rfl) T.z_len (by decide +kernel) (pa_cons (pv 3) pa_nil)) (pa_cons (pe_lst pa_nil) (pa_cons (pe_ix (ix_K K) (pv 0) pe_int (fun _ _ => rfl)) pa_nil)))))))
      pss_nil)
      (pss_one (ps_ret (pe_tup (pa_cons (pv 3) (pa_cons (pe_ix (ix_K K) (pv 0) pe_int (fun _ _ => rfl)) (pa_cons (pe_op (op_addK K) (pe_ix (ix_K K) (pv 0) pe_int (fun _ _ => rfl)) (pe_lst (pa_cons (pv 1) pa_nil))) (pa_cons (pe_ix (ix_K K) (pv 0) pe_int (fun _ _ => rfl)) pa_nil))))))))), ?_⟩
  rintro ds o B Q hl ⟨⟨l, s0, dn, up⟩, d, b, rfl, hk, rfl⟩ q
  have q' : RtOk B Q _ := q
  have h1 : l.length ≤ 1000 := hk.ll
  have h2 : dn.length ≤ 1000 := hk.ld
  dsimp only [Kp.e]
  l_intsC
  l_intsW
  · intro hb
    subst hb
    k_updF
    refine at_rt (d := (atEnd ⟨l, s0, dn, up⟩ d true).e) (ev_is (d := .tuple [.list (l.map Dd.e ++ [d.e]), .int (l.map Dd.e ++ [d.e]).length, .list [], .list (up.map .int)]) (by k_memK) ?_) rfl q'
    simp [atEnd, Kp.e]
  · intro hb
    subst hb
    k_updF
    refine at_rt (d := (atEnd ⟨l, s0, dn, up⟩ d false).e) (ev_is (d := .tuple [.list (l.map Dd.e ++ [d.e]), .int s0, .list (dn.map Dd.e ++ [d.e]), .list (up.map .int)]) (by k_memK) ?_) rfl q'
    simp [atEnd, Kp.e]

theorem ok_take (T : Tx K mg) : Def P w K mg base (L2.CX P w) 4 "take" ["chain", "deed"] (spW WO K 2 R_take) := by
  refine mkX T.f_take b_take sc_take rfl fun f cdv A outer s H E hr => ⟨_, (pss_cons (ps_if (pt_not (pt_val (pe_callD (ok_is_deed T) hr (pa_cons (pv 1) pa_nil))))
      (pss_one (ps_raise rfl (takes_of rfl rfl rfl rfl) (pmk_own PySem.F.excBase_ValueError T.x_BadDeed.1 T.g_BadDeed T.x_BadDeed.2.1 (raises_own T.x_BadDeed.2.2.1 T.x_BadDeed.2.2.2) (by exact rfl))))
      pss_nil)
      (pss_cons (ps_set (i := 2) sc_take.nd rfl (Or.inl rfl) (pe_ix (ix_K K) (pe_ix (ix_K K) (pv 0) pe_int (fun _ _ => rfl)) pe_int (fun _ _ => rfl)))
      (pss_cons (ps_setLc (i := 3) (own := [("one", 4)]) (g := gName 4) rfl sc_take.nd rfl rfl (sw_true rfl rfl rfl (by decide +kernel)) (pi_listK K (pe_ix (ix_K K) (pv 2) pe_int (fun _ _ => rfl))) (blkOk_by (own := [("one", 4)]) (N := N_take) (sc := defScope s_take) (by decide +kernel)) (fun _ _ _ _ _ => pg_name (i := 4) sc_take.nd rfl (Or.inl rfl)) (fun _ _ _ _ _ => (pts_one (pt_cmpR (op_eqK K (hu64 hr)) (pe_ix (ix_K K) (pv 4) pe_int (fun _ _ => rfl)) (pe_ix (ix_K K) (pv 1) pe_int (fun _ _ => rfl)) (nomark _)))) (fun _ _ _ _ _ => (pv 4)))
      (pss_cons (ps_if (pt_cmpR op_gt (pe_ix (ix_K K) (pv 1) pe_int (fun _ _ => rfl)) (pe_op (op_addK K) (pe_callB (len_K K) (by rfl) T.z_len (by decide +kernel) (pa_cons (pv 3) pa_nil)) pe_int) (nomark _))
      (pss_one (ps_raise rfl (takes_of rfl rfl rfl rfl) (pmk_own PySem.F.excBase_ValueError T.x_BadTurn.1 T.g_BadTurn T.x_BadTurn.2.1 (raises_own T.x_BadTurn.2.2.1 T.x_BadTurn.2.2.2) (by exact rfl))))
      pss_nil)
      (pss_cons (ps_if (pt_cmpR op_le (pe_ix (ix_K K) (pv 1) pe_int (fun _ _ => rfl)) (pe_callB (len_K K) (by rfl) T.z_len (by decide +kernel) (pa_cons (pv 3) pa_nil)) (nomark _))
      (pss_cons (ps_if (pt_cmpR (op_neK K (hu64 hr)) (pe_ix (ix_K K) (pv 3) (pe_op op_sub (pe_ix (ix_K K) (pv 1) pe_int (fun _ _ => rfl)) pe_int) (fun _ _ => rfl)) (pv 1) (nomark _))
      (pss_one (ps_raise rfl (takes_of rfl rfl rfl rfl) (pmk_own PySem.F.excBase_ValueError T.x_OtherDeed.1 T.g_OtherDeed T.x_OtherDeed.2.1 (raises_own T.x_OtherDeed.2.2.1 T.x_OtherDeed.2.2.2) (by exact rfl))))
      pss_nil)
      (pss_one (ps_ret (pe_callD (ok_chain_of T) hr (pa_cons (pe_ix (ix_K K) (pv 0) pe_int (fun _ _ => rfl)) (pa_cons (pe_ix (ix_K K) (pv 0) pe_int (fun _ _ => rfl)) pa_nil))))))
      pss_nil)
      (pss_one (ps_ret (pe_callD (ok_with_keeper T) hr (pa_cons (pv 0) (pa_cons pe_int (pa_cons (pe_callD (ok_at_end T) hr (pa_cons (pv 2) (pa_cons (pv 1) (pa_cons (pe_cmpR (op_eqK K (hu64 hr)) (pe_callB (len_K K) (by rfl) T.z_len (by decide +kernel) (pa_cons (pe_ix (ix_K K) (pv 0) pe_int (fun _ _ => rfl)) pa_nil)) pe_int (nomark _)) pa_nil)))) pa_nil))))))))))), ?_⟩
  rintro ds o B Q hl ⟨k, ks, co, hc, h⟩ q
  have hk : k.ok := hc.kp k List.mem_cons_self
  have hll : k.log.length ≤ 1000 := hk.ll
  rcases h with ⟨x, rfl, hx, hd, rfl⟩ | ⟨d, hd, rfl, rfl⟩
  · k_updF
    refine at_if (b := true) (et_is (et_not (et_test (ev_is_deedB (ev_var rfl) hx hd))) rfl) (fun _ => ?_) (fun hb => by cases hb)
    exact at_xq q
  · k_updF
    refine at_if (b := false) (et_is (et_not (et_test (ev_is_deedB (ev_var rfl) hd.sz hd.isDeed))) rfl) (fun hb => by cases hb) (fun _ => ?_)
    obtain ⟨l, s0, dn, up⟩ := k
    change At B (sls _ [.tuple [.list (.tuple [.list (l.map Dd.e), .int s0, .list (dn.map Dd.e), .list (up.map .int)] :: ks.map Kp.e), coE co], .tuple [.int d.a, .int d.t, .str d.w, .str d.k, .int d.v]]) _
    have hsh : ∀ d ∈ l, d.ok := hk.dl
    have hll2 : l.length ≤ 1000 := hll
    l_intsC
    k_updF
    have hf : ((l.filter fun x => decide (x.a = d.a)).length : Nat) ≤ 1000 := Nat.le_trans (List.length_filter_le _ _) hll
    refine at_setA (d := .list ((l.filter fun x => decide (x.a = d.a)).map Dd.e)) (EvN.ev (evN_lc (j := 4) Dd.e l (fun x => decide (x.a = d.a)) Dd.e rfl (ei_list (ev_op (ev_var rfl) ev_int (rv_ixT rfl))) (sz_dec (by omega)) (fun x hx => ?_) (fun x hx _ => ev_var rfl))) (by k_intsEnd) ?_
    · exact et_test (ev_op (ev_op (ev_var rfl) ev_int (rv_ixT (by rfl))) (ev_op (ev_var rfl) ev_int (rv_ixT (by rfl))) rv_eqI)
    · unfold takeO at q
      dsimp only at q
      have hsame : ∀ x ∈ l.filter (fun x => decide (x.a = d.a)), x.ok := fun x hx => hsh x (List.mem_filter.mp hx).1
      generalize l.filter (fun x => decide (x.a = d.a)) = same at hf q hsame ⊢
      l_intsW
      · intro hb
        have h : (same.length : Int) + 1 < d.t := by simpa using hb
        rw [if_pos h] at q
        exact at_xq q
      · intro hb
        have h : ¬ (same.length : Int) + 1 < d.t := by simpa using hb
        rw [if_neg h] at q
        l_intsW
        · intro hb2
          have h2 : d.t ≤ same.length := by simpa using hb2
          rw [if_pos h2] at q
          have ht1 := hd.t1
          obtain ⟨c, hcs⟩ : ∃ c, same[(d.t - 1).toNat]? = some c := ⟨_, List.getElem?_eq_getElem (by omega)⟩
          have hco : c.ok := hsame c (List.mem_of_getElem? hcs)
          have hne : RvD (rNeD K) c.e d.e (.bool (!decide (c = d))) := by
            have h := rv_neD (K := K) hco.shp.sh hd.shp.sh
            rw [eqv_dd] at h; exact h
          have hat : atI (same.map Dd.e) (d.t - 1) = some c.e := atI_map (f := Dd.e) (atI_int (by omega) hcs)
          k_updF
          refine at_if (b := !decide (c = d)) (et_test (ev_op (ev_op (ev_var rfl) (ev_op (ev_op (ev_var rfl) ev_int (rv_ixT rfl)) ev_int rv_sub) (rv_ixL hat)) (ev_var rfl) hne)) (fun hb3 => ?_) (fun hb3 => ?_)
          · have hcd : c ≠ d := by simpa using hb3
            rw [if_pos (by rw [hcs]; exact fun z => hcd (Option.some.inj z))] at q
            exact at_xq q
          · have hcd : c = d := by simpa using hb3
            rw [if_neg (by rw [hcs, hcd]; exact fun z => z rfl)] at q
            have q' : RtO B Q _ := q
            k_updF
            exact at_rtO (S := []) (em_chain_of (c := ⟨⟨l, s0, dn, up⟩ :: ks, co⟩) (ev_op (ev_var rfl) ev_int (rv_ixT rfl)) (ev_op (ev_var rfl) ev_int (rv_ixT rfl)) (by have := hc.lk; omega)) rfl q'
        · intro hb2
          have h2 : ¬ d.t ≤ same.length := by simpa using hb2
          rw [if_neg h2] at q
          have q' : RtO B Q _ := q
          have hz := hc.lk
          k_updF
          have hb0 : (decide ((((Kp.mk l s0 dn up :: ks).map Kp.e).length : Int) = 1)) = ks.isEmpty := by
            cases ks with
            | nil => rfl
            | cons a b =>
              rw [List.map_cons, List.map_cons, List.length_cons, List.length_cons]
              exact decide_eq_false (by omega)
          refine at_rtO (S := []) (em_with_keeper (c := ⟨⟨l, s0, dn, up⟩ :: ks, co⟩) (p := 0) (k := atEnd ⟨l, s0, dn, up⟩ d ks.isEmpty) (ev_var rfl) ev_int (ev_at_end (k := ⟨l, s0, dn, up⟩) (d := d) (b := ks.isEmpty) (ev_var rfl) (ev_var rfl) ?_ hk) (by simp) hc) rfl q'
          rw [← hb0]
          exact ev_op (ev_cb (ea_cons (ev_op (ev_var rfl) ev_int (rv_ixT rfl)) ea_nil) rc_lenL) ev_int rv_eqI

theorem ok_ask (T : Tx K mg) : Def P w K mg base (L2.CX P w) 3 "ask" ["chain", "key"] (spW WD K 2 R_ask0) := by
  refine mkX T.f_ask b_ask sc_ask rfl fun f cdv A outer s H E hr => ⟨_, (pss_cons (ps_if (pt_not (pt_val (pe_callD (ok_is_key T) hr (pa_cons (pv 1) pa_nil))))
      (pss_one (ps_raise rfl (takes_of rfl rfl rfl rfl) (pmk_own PySem.F.excBase_ValueError T.x_BadKey.1 T.g_BadKey T.x_BadKey.2.1 (raises_own T.x_BadKey.2.2.1 T.x_BadKey.2.2.2) (by exact rfl))))
      pss_nil)
      (pss_one (ps_ret (pe_dget1 (hu1 hr) (pe_ix (ix_K K) (pe_callD (ok_plainly T) hr (pa_cons (pe_ix (ix_K K) (pe_ix (ix_K K) (pe_ix (ix_K K) (pv 0) pe_int (fun _ _ => rfl)) (pe_un un_neg pe_int) (fun _ _ => rfl)) pe_int (fun _ _ => rfl)) pa_nil)) pe_int (fun _ _ => rfl)) (pv 1) (by exact ⟨rfl, rfl, rfl, rfl⟩))))), ?_⟩
  rintro ds o B Q hl ⟨c, x, rfl, hx, hk, rfl⟩ q
  k_updF
  refine at_if (b := true) (et_is (et_not (et_test (ev_is_keyB (ev_var rfl) hx hk))) rfl) (fun _ => ?_) (fun hb => by cases hb)
  exact at_xq q

theorem ok_steps_of (T : Tx K mg) : Def P w K mg base CX0 1 "steps_of" ["chain"] (spP 1 R_steps_of) := by
  refine mkP T.f_steps_of b_steps_of sc_steps_of rfl fun f cdv A outer s H E hr => ⟨_, (pss_cons (ps_set (i := 1) sc_steps_of.nd rfl (Or.inl rfl) (pe_listRg rfl (by rfl) T.z_list (prg_1 (by rfl) T.z_range (pe_callB (len_K K) (by rfl) T.z_len (by decide +kernel) (pa_cons (pe_ix (ix_K K) (pv 0) pe_int (fun _ _ => rfl)) pa_nil)))))
      (pss_cons (ps_setLc (i := 2) (own := [("place", 3)]) (g := gName 3) rfl sc_steps_of.nd rfl rfl (sw_true rfl rfl rfl (by decide +kernel)) (pi_listK K (pv 1)) (blkOk_by (own := [("place", 3)]) (N := N_steps_of) (sc := defScope s_steps_of) (by decide +kernel)) (fun _ _ _ _ _ => pg_name (i := 3) sc_steps_of.nd rfl (Or.inl rfl)) (fun _ _ _ _ _ => (pts_one (pt_cmpR (op_neK K (hu64 hr)) (pe_ix (ix_K K) (pe_ix (ix_K K) (pe_ix (ix_K K) (pv 0) pe_int (fun _ _ => rfl)) (pv 3) (fun _ _ => rfl)) pe_int (fun _ _ => rfl)) (pe_lst pa_nil) (nomark _)))) (fun _ _ _ _ _ => (pe_tup (pa_cons pe_str (pa_cons (pv 3) pa_nil)))))
      (pss_cons (ps_set (i := 2) sc_steps_of.nd rfl (Or.inl rfl) (pe_op (op_addK K) (pv 2) (pe_lc (own := [("place", 3)]) (g := gName 3) (by rfl) sc_steps_of.nd (pi_listK K (pv 1)) (blkOk_by (own := [("place", 3)]) (N := N_steps_of) (sc := defScope s_steps_of) (by decide +kernel)) (fun _ _ _ _ _ => pg_name (i := 3) sc_steps_of.nd rfl (Or.inl rfl)) (fun _ _ _ _ _ => (pts_one (pt_cmpR (op_neK K (hu64 hr)) (pe_ix (ix_K K) (pe_ix (ix_K K) (pe_ix (ix_K K) (pv 0) pe_int (fun _ _ => rfl)) (pv 3) (fun _ _ => rfl)) pe_int (fun _ _ => rfl)) (pe_lst pa_nil) (nomark _)))) (fun _ _ _ _ _ => (pe_tup (pa_cons pe_str (pa_cons (pv 3) pa_nil)))))))
      (pss_cons (ps_if (pt_cmpR op_notN' (pe_ix (ix_K K) (pv 0) pe_int (fun _ _ => rfl)) pe_non (nomark _))
      (pss_one (ps_expr (pe_bmK K PySem.F.plainAttrs_list PySem.F.slot_list_append PySem.F.type_list_append mt_append (pv 2) (pa_cons (pe_tup (pa_cons pe_str (pa_cons (pe_callB (len_K K) (by rfl) T.z_len (by decide +kernel) (pa_cons (pe_ix (ix_K K) (pv 0) pe_int (fun _ _ => rfl)) pa_nil)) pa_nil))) pa_nil))))
      pss_nil)
      (pss_one (ps_ret (pv 2))))))), ?_⟩
  rintro ds d B Q hl ⟨⟨ks, co⟩, rfl, hc, rfl⟩ q
  have hz : ks.length ≤ 1000 := hc.lk
  have hkp : ∀ k ∈ ks, k.ok := hc.kp
  have hmz : (ks.map Kp.e).length = ks.length := List.length_map _
  change At B (sls _ [.tuple [.list (ks.map Kp.e), coE co]]) _
  have ha : ∀ x, x < ks.length → atI (ks.map Kp.e) (0 + x : Int) = some (.tuple [.list ((kAt ks x).log.map Dd.e), .int (kAt ks x).sure, .list ((kAt ks x).down.map Dd.e), .list ((kAt ks x).up.map .int)]) := fun x hx => by
    rw [show (0 + x : Int) = (x : Int) by omega]
    exact kAt_get hx
  k_updF
  refine at_setA (ev_listRg (ev_cb (ea_cons (ev_op (ev_var rfl) ev_int (rv_ixT rfl)) ea_nil) rc_lenL) (by omega) (by rw [hmz]; omega)) (by k_intsEnd) ?_
  rw [show ((ks.map Kp.e).length : Int).toNat = ks.length by rw [hmz]; omega]
  k_updF
  refine at_setA (d := .list (((List.range ks.length).filter fun i => !(kAt ks i).down.isEmpty).map (stp "pass"))) (EvN.ev (evN_lc (j := 3) (fun i : Nat => .int (0 + i)) (List.range ks.length) (fun i => !(kAt ks i).down.isEmpty) (stp "pass") rfl (ei_list (ev_var rfl)) (by rw [List.length_range]; exact sz_dec (by omega)) (fun x hx => ?_) (fun x hx _ => ?_))) (by k_intsEnd) ?_
  · have hx' := List.mem_range.mp hx
    refine et_is (et_test (ev_op (ev_op (ev_op (ev_op (ev_var rfl) ev_int (rv_ixT rfl)) (ev_var rfl) (rv_ixL (ha x hx'))) ev_int (rv_ixT rfl)) (ev_lst ea_nil (by decide)) (rv_neNil ⟨2, by decide, shp_ddl (hkp _ (kAt_mem hx')).dd⟩))) ?_
    rw [List.isEmpty_map]
  · refine ev_is (ev_tup (ea_cons ev_str (ea_cons (ev_var rfl) ea_nil)) (by k_ownIn)) ?_
    unfold stp
    rw [show (0 + x : Int) = (x : Int) by omega]
  k_updF
  refine at_setNA (ds := ((List.range ks.length).filter fun i => !(kAt ks i).down.isEmpty).map (stp "pass") ++ ((List.range ks.length).filter fun i => !(kAt ks i).up.isEmpty).map (stp "back")) (evN_op (ev_var rfl) (EvN.ev (evN_lc (j := 3) (fun i : Nat => .int (0 + i)) (List.range ks.length) (fun i => !(kAt ks i).up.isEmpty) (stp "back") rfl (ei_list (ev_var rfl)) (by rw [List.length_range]; exact sz_dec (by omega)) (fun x hx => ?_) (fun x hx _ => ?_))) (rvN_addL ?_)) (by k_intsEnd) ?_
  · have hx' := List.mem_range.mp hx
    refine et_is (et_test (ev_op (ev_op (ev_op (ev_op (ev_var rfl) ev_int (rv_ixT rfl)) (ev_var rfl) (rv_ixL (ha x hx'))) ev_int (rv_ixT rfl)) (ev_lst ea_nil (by decide)) (rv_neNil ⟨1, by decide, shp_il⟩))) ?_
    rw [List.isEmpty_map]
  · refine ev_is (ev_tup (ea_cons ev_str (ea_cons (ev_var rfl) ea_nil)) (by k_ownIn)) ?_
    unfold stp
    rw [show (0 + x : Int) = (x : Int) by omega]
  · have h := stepsD_len (c := ⟨ks, none⟩) ⟨hz, hkp, fun l z => by cases z⟩
    unfold stepsD at h
    simp only [Option.isSome_none, Bool.false_eq_true, if_false, List.append_nil, List.length_append] at h
    exact sz_dec (by omega)
  have hzz := stepsD_len (c := ⟨ks, none⟩) ⟨hz, hkp, fun l z => by cases z⟩
  unfold stepsD at hzz
  simp only [Option.isSome_none, Bool.false_eq_true, if_false, List.append_nil] at hzz
  k_updF
  cases co with
  | none =>
    refine at_if (b := false) (et_test (ev_op (ev_op (ev_var rfl) ev_int (rv_ixT rfl)) ev_non rv_notN)) (fun hb => by cases hb) (fun _ => ?_)
    k_updF
    refine at_freezeA (i := 2) rfl (by k_intsEnd) ?_
    refine at_rt (ev_var rfl) ?_ q
    unfold stepsD
    simp
  | some l =>
    refine at_if (b := true) (et_test (ev_op (ev_op (ev_var rfl) ev_int (rv_ixT rfl)) ev_non rv_notN)) (fun _ => ?_) (fun hb => by cases hb)
    refine at_appendA (i := 2) (d := stp "learn" ks.length) rfl ?_ (by rw [sizeLine_eq]; omega) (by k_intsEnd) ?_
    · refine ev_is (ev_tup (ea_cons ev_str (ea_cons (ev_cb (ea_cons (ev_op (ev_var rfl) ev_int (rv_ixT rfl)) ea_nil) rc_lenL) ea_nil)) (by k_ownIn)) ?_
      unfold stp
      rw [hmz]
    k_updF
    refine at_freezeA (i := 2) rfl (by k_intsEnd) ?_
    refine at_rt (ev_var rfl) ?_ q
    unfold stepsD
    simp

theorem ok_passed (T : Tx K mg) : Def P w K mg base CX0 3 "passed" ["chain", "place"] (fun _ _ _ _ => False) := mkF T.f_passed b_passed sc_passed

theorem ok_backed (T : Tx K mg) : Def P w K mg base CX0 3 "backed" ["chain", "place"] (fun _ _ _ _ => False) := mkF T.f_backed b_backed sc_backed

theorem ok_grown (T : Tx K mg) : Def P w K mg base CX0 3 "grown" ["keepers", "coming"] (spW WO K 2 R_grown) := by
  refine mkW T.f_grown b_grown sc_grown rfl fun f cdv A outer s H E hr => ⟨_, (pss_cons (ps_if (pt_cmpR (op_eqK K (hu64 hr)) (pe_callB (len_K K) (by rfl) T.z_len (by decide +kernel) (pa_cons (pv 1) pa_nil)) (pe_callB (len_K K) (by rfl) T.z_len (by decide +kernel) (pa_cons (pe_ix (ix_K K) (pe_ix (ix_K K) (pv 0) (pe_un un_neg pe_int) (fun _ _ => rfl)) pe_int (fun _ _ => rfl)) pa_nil)) (nomark _))
      (pss_one (ps_ret (pe_callD (ok_chain_of T) hr (pa_cons (pe_op (op_addK K) (pv 0) (pe_lst (pa_cons (pe_tup (pa_cons (pv 1) (pa_cons (pe_callB (len_K K) (by rfl) T.z_len (by decide +kernel) (pa_cons (pv 1) pa_nil)) (pa_cons (pe_lst pa_nil) (pa_cons (pe_lst pa_nil) pa_nil))))) pa_nil))) (pa_cons pe_non pa_nil)))))
      pss_nil)
      (pss_one (ps_ret (pe_callD (ok_chain_of T) hr (pa_cons (pv 0) (pa_cons (pv 1) pa_nil)))))), ?_⟩
  rintro ds o B Q hl ⟨ks, l, rfl, hn, hc, rfl⟩ q
  have q' : RtO B Q _ := q
  have hz : ks.length ≤ 1000 := hc.lk
  have hlz : l.length ≤ 1000 := (hc.lc l rfl).1
  obtain ⟨k, hk⟩ : ∃ k, ks.getLast? = some k := ⟨_, List.getLast?_eq_some_getLast hn⟩
  unfold grownD at q'
  rw [hk, Option.getD_some] at q'
  have hat : atI (ks.map Kp.e) (-1) = some (.tuple [.list (k.log.map Dd.e), .int k.sure, .list (k.down.map Dd.e), .list (k.up.map .int)]) := atI_map (f := Kp.e) (atI_neg1 hk)
  k_updF
  refine at_if (b := decide (((l.map Dd.e).length : Int) = ((k.log.map Dd.e).length : Int))) (et_test (ev_op (ev_cb (ea_cons (ev_var rfl) ea_nil) rc_lenL) (ev_cb (ea_cons (ev_op (ev_op (ev_var rfl) (ev_un ev_int ru_neg) (rv_ixL hat)) ev_int (rv_ixT rfl)) ea_nil) rc_lenL) rv_eqI)) (fun hb => ?_) (fun hb => ?_)
  · have h : l.length = k.log.length := by
      rw [decide_eq_true_eq, List.length_map, List.length_map] at hb; omega
    rw [if_pos h] at q'
    k_updF
    refine at_rtO (S := []) (em_chain_of (c := ⟨ks ++ [⟨l, l.length, [], []⟩], none⟩) (ev_is (ev_op (ev_var rfl) (ev_lst (ea_cons (ev_tup (ea_cons (ev_var rfl) (ea_cons (ev_cb (ea_cons (ev_var rfl) ea_nil) rc_lenL) (ea_cons (ev_lst ea_nil (by k_ownIn)) (ea_cons (ev_lst ea_nil (by k_ownIn)) ea_nil)))) (by k_ownIn)) ea_nil) (by k_ownIn)) (RvN.d (rvN_addL (sz_dec (by rw [List.length_map]; show ks.length + 1 ≤ _; omega))))) ?_) ev_non (by rw [List.length_append]; show ks.length + 1 ≤ _; omega)) rfl q'
    simp [Kp.e]
  · have h : ¬ l.length = k.log.length := by
      rw [decide_eq_false_iff_not, List.length_map, List.length_map] at hb; omega
    rw [if_neg h] at q'
    k_updF
    exact at_rtO (S := []) (em_chain_of (c := ⟨ks, some l⟩) (ev_var rfl) (ev_var rfl) (by show ks.length ≤ _; omega)) rfl q'

theorem ok_done (T : Tx K mg) : Def P w K mg base (L2.CX P w) 4 "done" ["chain", "step"] (spW WO K 2 R_done0) := by
  refine mkX T.f_done b_done sc_done rfl fun f cdv A outer s H E hr => ⟨_, (pss_cons (ps_if (pt_cmpR (op_notInK K (hu65 hr)) (pv 1) (pe_callD (ok_steps_of T) hr (pa_cons (pv 0) pa_nil)) (by with_unfolding_all rfl))
      (pss_one (ps_raise rfl (takes_of rfl rfl rfl rfl) (pmk_own PySem.F.excBase_ValueError T.x_NoStep.1 T.g_NoStep T.x_NoStep.2.1 (raises_own T.x_NoStep.2.2.1 T.x_NoStep.2.2.2) (by exact rfl))))
      pss_nil)
      (pss_cons (ps_if (pt_cmpR (op_eqK K (hu64 hr)) (pe_ix (ix_K K) (pv 1) pe_int (fun _ _ => rfl)) pe_str (nomark _))
      (pss_one (ps_ret (pe_callD (ok_passed T) hr (pa_cons (pv 0) (pa_cons (pe_ix (ix_K K) (pv 1) pe_int (fun _ _ => rfl)) pa_nil)))))
      pss_nil)
      (pss_cons (ps_if (pt_cmpR (op_eqK K (hu64 hr)) (pe_ix (ix_K K) (pv 1) pe_int (fun _ _ => rfl)) pe_str (nomark _))
      (pss_one (ps_ret (pe_callD (ok_backed T) hr (pa_cons (pv 0) (pa_cons (pe_ix (ix_K K) (pv 1) pe_int (fun _ _ => rfl)) pa_nil)))))
      pss_nil)
      (pss_one (ps_ret (pe_callD (ok_grown T) hr (pa_cons (pe_ix (ix_K K) (pv 0) pe_int (fun _ _ => rfl)) (pa_cons (pe_op (op_addK K) (pe_ix (ix_K K) (pv 0) pe_int (fun _ _ => rfl)) (pe_lst (pa_cons (pe_ix (ix_K K) (pe_ix (ix_K K) (pe_ix (ix_K K) (pe_ix (ix_K K) (pv 0) pe_int (fun _ _ => rfl)) (pe_un un_neg pe_int) (fun _ _ => rfl)) pe_int (fun _ _ => rfl)) (pe_callB (len_K K) (by rfl) T.z_len (by decide +kernel) (pa_cons (pe_ix (ix_K K) (pv 0) pe_int (fun _ _ => rfl)) pa_nil)) (fun _ _ => rfl)) pa_nil))) pa_nil)))))))), ?_⟩
  rintro ds o B Q hl ⟨c, wd, i, rfl, hc, hw, hno, rfl⟩ q
  k_updF
  refine at_if (b := true) (et_is (et_test (ev_op (ev_var rfl) (ev_steps_of (ev_var rfl) hc) (rv_notInL (shp_tuple (n := 0) fun x hx => ?_).sh shp_steps.sh))) (by rw [hno]; rfl)) (fun _ => ?_) (fun hb => by cases hb)
  · simp only [List.mem_cons, List.not_mem_nil, or_false] at hx
    rcases hx with rfl | rfl
    · exact shp_str hw
    · exact shp_int
  · exact at_xq q

theorem ok_joined (T : Tx K mg) : Def P w K mg base CX0 1 "joined" ["ahead", "behind"] (fun _ _ _ _ => False) := mkF T.f_joined b_joined sc_joined

theorem ok_made_last (T : Tx K mg) : Def P w K mg base CX0 1 "made_last" ["keeper", "first"] (fun _ _ _ _ => False) := mkF T.f_made_last b_made_last sc_made_last

theorem ok_fall (T : Tx K mg) : Def P w K mg base (L2.CX P w) 3 "fall" ["chain", "place"] (spW WO K 2 R_fall0) := by
  refine mkX T.f_fall b_fall sc_fall rfl fun f cdv A outer s H E hr => ⟨_, (pss_cons (ps_set (i := 2) sc_fall.nd rfl (Or.inl rfl) (pe_callTy (list_K K) (by rfl) T.z_list (by decide +kernel) (pa_cons (pe_ix (ix_K K) (pv 0) pe_int (fun _ _ => rfl)) pa_nil)))
      (pss_cons (ps_set (i := 3) sc_fall.nd rfl (Or.inl rfl) (pe_callB (len_K K) (by rfl) T.z_len (by decide +kernel) (pa_cons (pv 2) pa_nil)))
      (pss_cons (ps_if (PW.pt (pw_and (pt_cmpR (op_eqK K (hu64 hr)) (pv 1) (pv 3) (nomark _)) (pw_and1 (pt_cmpR op_notN' (pe_ix (ix_K K) (pv 0) pe_int (fun _ _ => rfl)) pe_non (nomark _)))))
      (pss_one (ps_ret (pe_callD (ok_chain_of T) hr (pa_cons (pv 2) (pa_cons pe_non pa_nil)))))
      pss_nil)
      (pss_cons (ps_if (PW.pt (pw_or (pt_cmpR op_lt (pv 1) pe_int (nomark _)) (pw_or1 (pt_cmpR op_ge (pv 1) (pv 3) (nomark _)))))
      (pss_one (ps_raise rfl (takes_of rfl rfl rfl rfl) (pmk_own PySem.F.excBase_ValueError T.x_NoKeeper.1 T.g_NoKeeper T.x_NoKeeper.2.1 (raises_own T.x_NoKeeper.2.2.1 T.x_NoKeeper.2.2.2) (by exact rfl))))
      pss_nil)
      (pss_cons (ps_if (pt_cmpR (op_eqK K (hu64 hr)) (pv 3) pe_int (nomark _))
      (pss_one (ps_raise rfl (takes_of rfl rfl rfl rfl) (pmk_own PySem.F.excBase_ValueError T.x_OnlyKeeper.1 T.g_OnlyKeeper T.x_OnlyKeeper.2.1 (raises_own T.x_OnlyKeeper.2.2.1 T.x_OnlyKeeper.2.2.2) (by exact rfl))))
      pss_nil)
      (pss_cons (ps_set (i := 4) sc_fall.nd rfl (Or.inl rfl) (pe_slice (sl_K K) (pv 2) po_none (po_some (pv 1))))
      (pss_cons (ps_set (i := 5) sc_fall.nd rfl (Or.inl rfl) (pe_slice (sl_K K) (pv 2) (po_some (pe_op (op_addK K) (pv 1) pe_int)) po_none))
      (pss_cons (ps_if (pt_cmpR (op_eqK K (hu64 hr)) (pv 4) (pe_lst pa_nil) (nomark _))
      (pss_one (ps_asg (pe_tup (pa_cons (pe_ix (ix_K K) (pe_ix (ix_K K) (pv 5) pe_int (fun _ _ => rfl)) pe_int (fun _ _ => rfl)) (pa_cons (pe_ix (ix_K K) (pe_ix (ix_K K) (pv 5) pe_int (fun _ _ => rfl)) pe_int (fun _ _ => rfl)) (pa_cons (pe_ix (ix_K K) (pe_ix (ix_K K) (pv 5) pe_int (fun _ _ => rfl)) pe_int (fun _ _ => rfl)) (pa_cons (pe_lst pa_nil) pa_nil))))) (pg_sub (pv 5) pe_int set_list)))
      (pss_one (ps_if (pt_cmpR (op_eqK K (hu64 hr)) (pv 5) (pe_lst pa_nil) (nomark _))
      (pss_one (ps_asg (pe_callD (ok_made_last T) hr (pa_cons (pe_ix (ix_K K) (pv 4) (pe_un un_neg pe_int) (fun _ _ => rfl)) (pa_cons (pe_cmpR (op_eqK K (hu64 hr)) (pv 1) pe_int (nomark _)) pa_nil))) (pg_sub (pv 4) (pe_un un_neg pe_int) set_list)))
      (pss_cons (ps_set (i := 6) sc_fall.nd rfl (Or.inl rfl) (pe_callD (ok_joined T) hr (pa_cons (pe_ix (ix_K K) (pv 4) (pe_un un_neg pe_int) (fun _ _ => rfl)) (pa_cons (pe_ix (ix_K K) (pv 5) pe_int (fun _ _ => rfl)) pa_nil))))
      (pss_cons (ps_asg (pe_ix (ix_K K) (pv 6) pe_int (fun _ _ => rfl)) (pg_sub (pv 4) (pe_un un_neg pe_int) set_list))
      (pss_one (ps_asg (pe_ix (ix_K K) (pv 6) pe_int (fun _ _ => rfl)) (pg_sub (pv 5) pe_int set_list))))))))
      (pss_one (ps_ret (pe_callD (ok_chain_of T) hr (pa_cons (pe_op (op_addK K) (pv 4) (pv 5)) (pa_cons (pe_ix (ix_K K) (pv 0) pe_int (fun _ _ => rfl)) pa_nil))))))))))))), ?_⟩
  rintro ds o B Q hl ⟨⟨ks, co⟩, p, rfl, hc, hco, h⟩ q
  have hco' : co = none := hco
  subst hco'
  have hz : ks.length ≤ 1000 := hc.lk
  have hmz : (ks.map Kp.e).length = ks.length := List.length_map _
  change At B (sls _ [.tuple [.list (ks.map Kp.e), .none], .int p]) _
  l_intsC
  l_intsC
  k_updF
  refine at_if (b := false) (et_is (et_and (et_test (ev_op (ev_var rfl) (ev_var rfl) rv_eqI)) fun _ => et_test (ev_op (ev_op (ev_var rfl) ev_int (rv_ixT rfl)) ev_non rv_notN)) (by rw [show isNonD .none = true from rfl]; simp)) (fun hb => by cases hb) (fun _ => ?_)
  l_intsW
  · intro hb
    have h2 : p < 0 ∨ ks.length ≤ p := by
      simp only [Bool.or_eq_true, decide_eq_true_eq, hmz] at hb; exact hb
    rcases h with ⟨_, rfl⟩ | ⟨h3, h4, _, _⟩
    · exact at_xq q
    · exfalso
      have h4' : p < ks.length := h4
      omega
  · intro hb
    have h2 : ¬ (p < 0 ∨ ks.length ≤ p) := by
      intro z
      simp only [Bool.or_eq_false_iff, decide_eq_false_iff_not, hmz] at hb
      omega
    rcases h with ⟨h3, _⟩ | ⟨_, _, h5, rfl⟩
    · exact absurd h3 h2
    · have h5' : ks.length = 1 := h5
      k_updF
      refine at_if (b := true) (et_is (et_test (ev_op (ev_var rfl) ev_int rv_eqI)) (by rw [hmz, h5']; rfl)) (fun _ => ?_) (fun hb => by cases hb)
      exact at_xq q

theorem ok_come (T : Tx K mg) : Def P w K mg base (L2.CX P w) 4 "come" ["chain"] (spW WO K 1 R_come) := by
  refine mkX T.f_come b_come sc_come rfl fun f cdv A outer s H E hr => ⟨_, (pss_cons (ps_if (pt_cmpR op_notN' (pe_ix (ix_K K) (pv 0) pe_int (fun _ _ => rfl)) pe_non (nomark _))
      (pss_one (ps_raise rfl (takes_of rfl rfl rfl rfl) (pmk_own PySem.F.excBase_ValueError T.x_OneComing.1 T.g_OneComing T.x_OneComing.2.1 (raises_own T.x_OneComing.2.2.1 T.x_OneComing.2.2.2) (by exact rfl))))
      pss_nil)
      (pss_cons (ps_if (pt_cmpR (op_eqK K (hu64 hr)) (pe_callB (len_K K) (by rfl) T.z_len (by decide +kernel) (pa_cons (pe_ix (ix_K K) (pv 0) pe_int (fun _ _ => rfl)) pa_nil)) (pe_gint T.c_MOST_KEEPERS) (nomark _))
      (pss_one (ps_raise rfl (takes_of rfl rfl rfl rfl) (pmk_own PySem.F.excBase_ValueError T.x_TooMany.1 T.g_TooMany T.x_TooMany.2.1 (raises_own T.x_TooMany.2.2.1 T.x_TooMany.2.2.2) (by exact rfl))))
      pss_nil)
      (pss_one (ps_ret (pe_callD (ok_grown T) hr (pa_cons (pe_ix (ix_K K) (pv 0) pe_int (fun _ _ => rfl)) (pa_cons (pe_lst pa_nil) pa_nil))))))), ?_⟩
  rintro ds o B Q hl ⟨⟨ks, co⟩, rfl, hc, hn, rfl⟩ q
  have hz : ks.length ≤ 1000 := hc.lk
  change At B (sls _ [.tuple [.list (ks.map Kp.e), coE co]]) _
  unfold comeO at q
  cases co with
  | some l =>
    k_updF
    refine at_if (b := true) (et_test (ev_op (ev_op (ev_var rfl) ev_int (rv_ixT rfl)) ev_non rv_notN)) (fun _ => ?_) (fun hb => by cases hb)
    exact at_xq q
  | none =>
    k_updF
    refine at_if (b := false) (et_test (ev_op (ev_op (ev_var rfl) ev_int (rv_ixT rfl)) ev_non rv_notN)) (fun hb => by cases hb) (fun _ => ?_)
    k_updF
    refine at_if (b := decide (((ks.map Kp.e).length : Int) = 9)) (et_test (ev_op (ev_cb (ea_cons (ev_op (ev_var rfl) ev_int (rv_ixT rfl)) ea_nil) rc_lenL) (by k_memK) rv_eqI)) (fun hb => ?_) (fun hb => ?_)
    · have h : ks.length = 9 := by rw [decide_eq_true_eq, List.length_map] at hb; omega
      simp only [Option.isSome_none, Bool.false_eq_true, if_false, h, if_true] at q
      exact at_xq q
    · have h : ¬ ks.length = 9 := by rw [decide_eq_false_iff_not, List.length_map] at hb; omega
      simp only [Option.isSome_none, Bool.false_eq_true, if_false, h] at q
      have q' : RtO B Q _ := q
      k_updF
      exact at_rtO (S := []) (em_grown (ks := ks) (l := []) (ev_op (ev_var rfl) ev_int (rv_ixT rfl)) (ev_lst ea_nil (by k_ownIn)) hn ⟨hz, hc.kp, fun l e => by cases e; exact ⟨by show 0 ≤ _; omega, fun d hd => by cases hd⟩⟩) rfl q'

theorem ok__law_cell_at (T : Tx K mg) : Def P w K mg base CX0 1 "_law_cell_at" ["_law_script", "_law_k"] (spP 2 R_cell_at) := by
  refine mkP T.f__law_cell_at b__law_cell_at sc__law_cell_at rfl fun f cdv A outer s H E hr => ⟨_, (pss_cons (ps_if (pt_cmpR op_lt (pv 1) (pe_callB (len_K K) (by rfl) T.z_len (by decide +kernel) (pa_cons (pv 0) pa_nil)) (nomark _))
      (pss_one (ps_ret (pe_ix (ix_K K) (pv 0) (pv 1) (fun _ _ => rfl))))
      pss_nil)
      (pss_one (ps_ret pe_int))), ?_⟩
  rintro ds d B Q hl ⟨ns, k, rfl, h0, rfl⟩ q
  l_intsW
  · intro hb
    have hk : k.toNat < ns.length := by rw [decide_eq_true_eq, List.length_map] at hb; omega
    refine at_rt (ev_op (ev_var rfl) (ev_var rfl) (rv_ixL (atI_map (f := PyData.int) (atI_int h0 (cellAt_get hk))))) rfl q
  · intro hb
    have hk : ¬ k.toNat < ns.length := by rw [decide_eq_false_iff_not, List.length_map] at hb; omega
    kc_close
    rw [cellAt_no hk]

theorem ok__law_called (T : Tx K mg) : Def P w K mg base (L2.CX P w) 5 "_law_called" ["_law_kind", "_law_number"] (spW WD K 2 R_called) := by
  refine mkX T.f__law_called b__law_called sc__law_called rfl fun f cdv A outer s H E hr => ⟨_, (pss_cons (ps_set (i := 2) sc__law_called.nd rfl (Or.inl rfl) (pe_callDX (ok_take T) hr (takes_of rfl rfl rfl rfl) (pa_cons (pe_callDX (ok_begun T) hr (takes_of rfl rfl rfl rfl) (pa_cons pe_int pa_nil)) (pa_cons (pe_tup (pa_cons (pe_op op_mod (pv 1) pe_int) (pa_cons pe_int (pa_cons pe_str (pa_cons pe_str (pa_cons (pv 1) pa_nil)))))) pa_nil))))
      (pss_cons (ps_if (pt_cmpR (op_eqK K (hu64 hr)) (pv 0) pe_int (nomark _))
      (pss_one (ps_expr (pe_callDX (ok_take T) hr (takes_of rfl rfl rfl rfl) (pa_cons (pv 2) (pa_cons (pe_tup (pa_cons (pe_op (op_addK K) pe_int (pv 1)) (pa_cons pe_int (pa_cons pe_str (pa_cons pe_str (pa_cons pe_int pa_nil)))))) pa_nil)))))
      pss_nil)
      (pss_cons (ps_if (pt_cmpR (op_eqK K (hu64 hr)) (pv 0) pe_int (nomark _))
      (pss_one (ps_expr (pe_callDX (ok_ask T) hr (takes_of rfl rfl rfl rfl) (pa_cons (pv 2) (pa_cons (pe_op op_mulU pe_str (pe_op op_mod (pv 1) pe_int)) pa_nil)))))
      pss_nil)
      (pss_cons (ps_if (pt_cmpR (op_eqK K (hu64 hr)) (pv 0) pe_int (nomark _))
      (pss_one (ps_expr (pe_callDX (ok_take T) hr (takes_of rfl rfl rfl rfl) (pa_cons (pv 2) (pa_cons (pe_tup (pa_cons (pe_op op_mod (pv 1) pe_int) (pa_cons (pe_op (op_addK K) pe_int (pv 1)) (pa_cons pe_str (pa_cons pe_str (pa_cons pe_int pa_nil)))))) pa_nil)))))
      pss_nil)
      (pss_cons (ps_if (pt_cmpR (op_eqK K (hu64 hr)) (pv 0) pe_int (nomark _))
      (pss_one (ps_expr (pe_callDX (ok_take T) hr (takes_of rfl rfl rfl rfl) (pa_cons (pv 2) (pa_cons (pe_tup (pa_cons (pe_op op_mod (pv 1) pe_int) (pa_cons pe_int (pa_cons pe_str (pa_cons pe_str (pa_cons (pe_op (op_addK K) (pv 1) pe_int) pa_nil)))))) pa_nil)))))
      pss_nil)
      (pss_cons (ps_if (pt_cmpR (op_eqK K (hu64 hr)) (pv 0) pe_int (nomark _))
      (pss_one (ps_expr (pe_callDX (ok_done T) hr (takes_of rfl rfl rfl rfl) (pa_cons (pv 2) (pa_cons (pe_tup (pa_cons pe_str (pa_cons (pv 1) pa_nil))) pa_nil)))))
      pss_nil)
      (pss_cons (ps_if (pt_cmpR (op_eqK K (hu64 hr)) (pv 0) pe_int (nomark _))
      (pss_one (ps_expr (pe_callDX (ok_fall T) hr (takes_of rfl rfl rfl rfl) (pa_cons (pv 2) (pa_cons (pe_op (op_addK K) pe_int (pv 1)) pa_nil)))))
      pss_nil)
      (pss_cons (ps_if (pt_cmpR (op_eqK K (hu64 hr)) (pv 0) pe_int (nomark _))
      (pss_one (ps_expr (pe_callDX (ok_fall T) hr (takes_of rfl rfl rfl rfl) (pa_cons (pv 2) (pa_cons pe_int pa_nil)))))
      pss_nil)
      (pss_cons (ps_if (pt_cmpR (op_eqK K (hu64 hr)) (pv 0) pe_int (nomark _))
      (pss_one (ps_expr (pe_callDX (ok_come T) hr (takes_of rfl rfl rfl rfl) (pa_cons (pe_callDX (ok_come T) hr (takes_of rfl rfl rfl rfl) (pa_cons (pv 2) pa_nil)) pa_nil))))
      pss_nil)
      (pss_one (ps_if (pt_cmpR (op_eqK K (hu64 hr)) (pv 0) pe_int (nomark _))
      (pss_one (ps_expr (pe_callDX (ok_begun T) hr (takes_of rfl rfl rfl rfl) (pa_cons (pe_op (op_addK K) pe_int (pv 1)) pa_nil))))
      pss_nil))))))))))), ?_⟩
  rintro ds o B Q hl ⟨i, c, n, rfl, hi, h0, rfl⟩ q
  k_updF
  refine at_setA (d := (c14 n).e) (EvM.ev (em_callW (ds := [Ch.e ⟨[nilK], none⟩, (Dd.mk (n % 10) 1 "put" "a" n).e]) (ea_cons (EvM.ev (em_callW (d := Ch.e ⟨[nilK], none⟩) (ea_cons ev_int ea_nil) rfl ⟨1, rfl, rfl⟩)) (ea_cons (ev_tup (ea_cons (by k_memK) (ea_cons (by k_memK) (ea_cons ev_str (ea_cons ev_str (ea_cons (by k_memK) ea_nil))))) (by k_ownIn)) ea_nil)) rfl ⟨nilK, [], none, ⟨by show 1 ≤ 1000; omega, fun k hk => by rw [List.mem_singleton.mp hk]; exact nilK_ok, fun l z => by cases z⟩, .inr ⟨dd14 n n, dd14_ok n n, rfl, (take14 n).symm⟩⟩)) (by k_intsEnd) ?_
  k_updF
  match i, hi with
  | 0, hi =>
    cases hi
    refine at_if (b := true) (et_is (et_test (ev_op (ev_var rfl) ev_int rv_eqI)) (by decide)) (fun _ => ?_) (fun hb => by cases hb)
    k_updF
    refine at_rzDrop (rz_callW (ds := [(c14 n).e, .tuple [.int (10 + n), .int 1, .str "put", .str "a", .int 1]]) (ea_cons (ev_var rfl) (ea_cons (ev_tup (ea_cons (by k_memK) (ea_cons (by k_memK) (ea_cons ev_str (ea_cons ev_str (ea_cons (by k_memK) ea_nil))))) (by k_ownIn)) ea_nil)) rfl ⟨k14K n, [], none, c14_ok n, .inl ⟨_, rfl, ?_, (show isDeed5 (.int (10 + n)) (.int 1) (.str "put") (.str "a") (.int 1) = false from isDeed5_no (.inr (.inl (by omega)))), rfl⟩⟩) (at_xq q)
    intro x hx
    simp only [List.mem_cons, List.not_mem_nil, or_false] at hx
    rcases hx with rfl | rfl | rfl | rfl | rfl
    · exact ⟨trivial, trivial⟩
    · exact ⟨trivial, trivial⟩
    · exact ⟨by show Str.length _ ≤ _; decide +kernel, by show PyData.strOk _ = true; decide +kernel⟩
    · exact ⟨by show Str.length _ ≤ _; decide +kernel, by show PyData.strOk _ = true; decide +kernel⟩
    · exact ⟨trivial, trivial⟩
  | 1, hi =>
    cases hi
    refine at_if (b := false) (et_is (et_test (ev_op (ev_var rfl) ev_int rv_eqI)) (by decide)) (fun hb => by cases hb) (fun _ => ?_)
    k_updF
    refine at_if (b := true) (et_is (et_test (ev_op (ev_var rfl) ev_int rv_eqI)) (by decide)) (fun _ => ?_) (fun hb => by cases hb)
    k_updF
    refine at_rzDrop (rz_callW (ds := [(c14 n).e, .str (Txt.mul "A" (n % 3))]) (ea_cons (ev_var rfl) (ea_cons (ev_op ev_str (ev_op (ev_var rfl) ev_int (rv_modP (by decide))) (rv_mulS (isKeyS_A n).2.2)) ea_nil)) rfl ⟨_, _, rfl, (isKeyS_A n).2.1, (isKeyS_A n).1, rfl⟩) (at_xq q)
  | 2, hi =>
    cases hi
    refine at_if (b := false) (et_is (et_test (ev_op (ev_var rfl) ev_int rv_eqI)) (by decide)) (fun hb => by cases hb) (fun _ => ?_)
    k_updF
    refine at_if (b := false) (et_is (et_test (ev_op (ev_var rfl) ev_int rv_eqI)) (by decide)) (fun hb => by cases hb) (fun _ => ?_)
    k_updF
    refine at_if (b := true) (et_is (et_test (ev_op (ev_var rfl) ev_int rv_eqI)) (by decide)) (fun _ => ?_) (fun hb => by cases hb)
    k_updF
    refine at_rzDrop (rz_callW (ds := [(c14 n).e, (Dd.mk (n % 10) (3 + n) "put" "a" 1).e]) (ea_cons (ev_var rfl) (ea_cons (ev_tup (ea_cons (by k_memK) (ea_cons (by k_memK) (ea_cons ev_str (ea_cons ev_str (ea_cons (by k_memK) ea_nil))))) (by k_ownIn)) ea_nil)) rfl ⟨k14K n, [], none, c14_ok n, .inr ⟨⟨n % 10, 3 + n, "put", "a", 1⟩, ⟨(dd14_ok n 1).a0, (dd14_ok n 1).a9, by show 1 ≤ 3 + n; omega, (dd14_ok n 1).key, (dd14_ok n 1).word⟩, rfl, ?_⟩⟩) (at_xq q)
    unfold takeO
    simp only [k14K, dd14, List.filter_cons, List.filter_nil, decide_true, if_true, List.length_cons, List.length_nil]
    rw [if_pos (by omega)]
  | 3, hi =>
    cases hi
    refine at_if (b := false) (et_is (et_test (ev_op (ev_var rfl) ev_int rv_eqI)) (by decide)) (fun hb => by cases hb) (fun _ => ?_)
    k_updF
    refine at_if (b := false) (et_is (et_test (ev_op (ev_var rfl) ev_int rv_eqI)) (by decide)) (fun hb => by cases hb) (fun _ => ?_)
    k_updF
    refine at_if (b := false) (et_is (et_test (ev_op (ev_var rfl) ev_int rv_eqI)) (by decide)) (fun hb => by cases hb) (fun _ => ?_)
    k_updF
    refine at_if (b := true) (et_is (et_test (ev_op (ev_var rfl) ev_int rv_eqI)) (by decide)) (fun _ => ?_) (fun hb => by cases hb)
    k_updF
    refine at_rzDrop (rz_callW (ds := [(c14 n).e, (Dd.mk (n % 10) 1 "put" "a" (n + 1)).e]) (ea_cons (ev_var rfl) (ea_cons (ev_tup (ea_cons (by k_memK) (ea_cons (by k_memK) (ea_cons ev_str (ea_cons ev_str (ea_cons (by k_memK) ea_nil))))) (by k_ownIn)) ea_nil)) rfl ⟨k14K n, [], none, c14_ok n, .inr ⟨dd14 n (n + 1), dd14_ok n (n + 1), rfl, ?_⟩⟩) (at_xq q)
    unfold takeO
    simp only [k14K, dd14, List.filter_cons, List.filter_nil, decide_true, if_true, List.length_cons, List.length_nil]
    rw [if_neg (by omega), if_pos (by omega), if_pos]
    intro z
    have z2 : (⟨n % 10, 1, "put", "a", n⟩ : Dd) = ⟨n % 10, 1, "put", "a", n + 1⟩ := Option.some.inj z
    have z3 := congrArg Dd.v z2
    have z4 : n = n + 1 := z3
    omega
  | 4, hi =>
    cases hi
    refine at_if (b := false) (et_is (et_test (ev_op (ev_var rfl) ev_int rv_eqI)) (by decide)) (fun hb => by cases hb) (fun _ => ?_)
    k_updF
    refine at_if (b := false) (et_is (et_test (ev_op (ev_var rfl) ev_int rv_eqI)) (by decide)) (fun hb => by cases hb) (fun _ => ?_)
    k_updF
    refine at_if (b := false) (et_is (et_test (ev_op (ev_var rfl) ev_int rv_eqI)) (by decide)) (fun hb => by cases hb) (fun _ => ?_)
    k_updF
    refine at_if (b := false) (et_is (et_test (ev_op (ev_var rfl) ev_int rv_eqI)) (by decide)) (fun hb => by cases hb) (fun _ => ?_)
    k_updF
    refine at_if (b := true) (et_is (et_test (ev_op (ev_var rfl) ev_int rv_eqI)) (by decide)) (fun _ => ?_) (fun hb => by cases hb)
    k_updF
    refine at_rzDrop (rz_callW (ds := [(c14 n).e, .tuple [.str "pass", .int n]]) (ea_cons (ev_var rfl) (ea_cons (ev_tup (ea_cons ev_str (ea_cons (ev_var rfl) ea_nil)) (by k_ownIn)) ea_nil)) rfl ⟨c14 n, "pass", n, rfl, c14_ok n, by decide +kernel, rfl, rfl⟩) (at_xq q)
  | 5, hi =>
    cases hi
    refine at_if (b := false) (et_is (et_test (ev_op (ev_var rfl) ev_int rv_eqI)) (by decide)) (fun hb => by cases hb) (fun _ => ?_)
    k_updF
    refine at_if (b := false) (et_is (et_test (ev_op (ev_var rfl) ev_int rv_eqI)) (by decide)) (fun hb => by cases hb) (fun _ => ?_)
    k_updF
    refine at_if (b := false) (et_is (et_test (ev_op (ev_var rfl) ev_int rv_eqI)) (by decide)) (fun hb => by cases hb) (fun _ => ?_)
    k_updF
    refine at_if (b := false) (et_is (et_test (ev_op (ev_var rfl) ev_int rv_eqI)) (by decide)) (fun hb => by cases hb) (fun _ => ?_)
    k_updF
    refine at_if (b := false) (et_is (et_test (ev_op (ev_var rfl) ev_int rv_eqI)) (by decide)) (fun hb => by cases hb) (fun _ => ?_)
    k_updF
    refine at_if (b := true) (et_is (et_test (ev_op (ev_var rfl) ev_int rv_eqI)) (by decide)) (fun _ => ?_) (fun hb => by cases hb)
    k_updF
    refine at_rzDrop (rz_callW (ds := [(c14 n).e, .int (1 + n)]) (ea_cons (ev_var rfl) (ea_cons (by k_memK) ea_nil)) rfl ⟨c14 n, 1 + n, rfl, c14_ok n, rfl, .inl ⟨.inr (by show (1 : Int) ≤ 1 + n; omega), rfl⟩⟩) (at_xq q)
  | 6, hi =>
    cases hi
    refine at_if (b := false) (et_is (et_test (ev_op (ev_var rfl) ev_int rv_eqI)) (by decide)) (fun hb => by cases hb) (fun _ => ?_)
    k_updF
    refine at_if (b := false) (et_is (et_test (ev_op (ev_var rfl) ev_int rv_eqI)) (by decide)) (fun hb => by cases hb) (fun _ => ?_)
    k_updF
    refine at_if (b := false) (et_is (et_test (ev_op (ev_var rfl) ev_int rv_eqI)) (by decide)) (fun hb => by cases hb) (fun _ => ?_)
    k_updF
    refine at_if (b := false) (et_is (et_test (ev_op (ev_var rfl) ev_int rv_eqI)) (by decide)) (fun hb => by cases hb) (fun _ => ?_)
    k_updF
    refine at_if (b := false) (et_is (et_test (ev_op (ev_var rfl) ev_int rv_eqI)) (by decide)) (fun hb => by cases hb) (fun _ => ?_)
    k_updF
    refine at_if (b := false) (et_is (et_test (ev_op (ev_var rfl) ev_int rv_eqI)) (by decide)) (fun hb => by cases hb) (fun _ => ?_)
    k_updF
    refine at_if (b := true) (et_is (et_test (ev_op (ev_var rfl) ev_int rv_eqI)) (by decide)) (fun _ => ?_) (fun hb => by cases hb)
    k_updF
    refine at_rzDrop (rz_callW (ds := [(c14 n).e, .int 0]) (ea_cons (ev_var rfl) (ea_cons (by k_memK) ea_nil)) rfl ⟨c14 n, 0, rfl, c14_ok n, rfl, .inr ⟨by omega, by show (0 : Int) < 1; omega, rfl, rfl⟩⟩) (at_xq q)
  | 7, hi =>
    cases hi
    refine at_if (b := false) (et_is (et_test (ev_op (ev_var rfl) ev_int rv_eqI)) (by decide)) (fun hb => by cases hb) (fun _ => ?_)
    k_updF
    refine at_if (b := false) (et_is (et_test (ev_op (ev_var rfl) ev_int rv_eqI)) (by decide)) (fun hb => by cases hb) (fun _ => ?_)
    k_updF
    refine at_if (b := false) (et_is (et_test (ev_op (ev_var rfl) ev_int rv_eqI)) (by decide)) (fun hb => by cases hb) (fun _ => ?_)
    k_updF
    refine at_if (b := false) (et_is (et_test (ev_op (ev_var rfl) ev_int rv_eqI)) (by decide)) (fun hb => by cases hb) (fun _ => ?_)
    k_updF
    refine at_if (b := false) (et_is (et_test (ev_op (ev_var rfl) ev_int rv_eqI)) (by decide)) (fun hb => by cases hb) (fun _ => ?_)
    k_updF
    refine at_if (b := false) (et_is (et_test (ev_op (ev_var rfl) ev_int rv_eqI)) (by decide)) (fun hb => by cases hb) (fun _ => ?_)
    k_updF
    refine at_if (b := false) (et_is (et_test (ev_op (ev_var rfl) ev_int rv_eqI)) (by decide)) (fun hb => by cases hb) (fun _ => ?_)
    k_updF
    refine at_if (b := true) (et_is (et_test (ev_op (ev_var rfl) ev_int rv_eqI)) (by decide)) (fun _ => ?_) (fun hb => by cases hb)
    k_updF
    refine at_rzDrop (rz_callW (ds := [Ch.e ⟨[k14K n], some []⟩]) (ea_cons (EvM.ev (em_callW (d := Ch.e ⟨[k14K n], some []⟩) (ea_cons (ev_var rfl) ea_nil) rfl ⟨c14 n, rfl, c14_ok n, by simp [c14], (come14 n).symm⟩)) ea_nil) rfl ⟨⟨[k14K n], some []⟩, rfl, ⟨by show 1 ≤ 1000; omega, (c14_ok n).kp, fun l z => by cases z; exact ⟨by show 0 ≤ 1000; omega, fun d hd => by cases hd⟩⟩, by simp, rfl⟩) (at_xq q)
  | 8, hi =>
    cases hi
    refine at_if (b := false) (et_is (et_test (ev_op (ev_var rfl) ev_int rv_eqI)) (by decide)) (fun hb => by cases hb) (fun _ => ?_)
    k_updF
    refine at_if (b := false) (et_is (et_test (ev_op (ev_var rfl) ev_int rv_eqI)) (by decide)) (fun hb => by cases hb) (fun _ => ?_)
    k_updF
    refine at_if (b := false) (et_is (et_test (ev_op (ev_var rfl) ev_int rv_eqI)) (by decide)) (fun hb => by cases hb) (fun _ => ?_)
    k_updF
    refine at_if (b := false) (et_is (et_test (ev_op (ev_var rfl) ev_int rv_eqI)) (by decide)) (fun hb => by cases hb) (fun _ => ?_)
    k_updF
    refine at_if (b := false) (et_is (et_test (ev_op (ev_var rfl) ev_int rv_eqI)) (by decide)) (fun hb => by cases hb) (fun _ => ?_)
    k_updF
    refine at_if (b := false) (et_is (et_test (ev_op (ev_var rfl) ev_int rv_eqI)) (by decide)) (fun hb => by cases hb) (fun _ => ?_)
    k_updF
    refine at_if (b := false) (et_is (et_test (ev_op (ev_var rfl) ev_int rv_eqI)) (by decide)) (fun hb => by cases hb) (fun _ => ?_)
    k_updF
    refine at_if (b := false) (et_is (et_test (ev_op (ev_var rfl) ev_int rv_eqI)) (by decide)) (fun hb => by cases hb) (fun _ => ?_)
    k_updF
    refine at_if (b := true) (et_is (et_test (ev_op (ev_var rfl) ev_int rv_eqI)) (by decide)) (fun _ => ?_) (fun hb => by cases hb)
    k_updF
    refine at_rzDrop (rz_callW (ds := [.int (10 + n)]) (ea_cons (by k_memK) ea_nil) rfl ⟨10 + n, rfl, by unfold begunO; rw [if_pos (.inr (by omega))]⟩) (at_xq q)
  | i + 9, hi => cases hi

theorem ok__law_kinds (T : Tx K mg) : Def P w K mg base CX0 6 "_law_kinds" ["_law_kind", "_law_number"] (spP 2 R_kinds) := by
  refine mkP T.f__law_kinds b__law_kinds sc__law_kinds rfl fun f cdv A outer s H E hr => ⟨_, (pss_cons (ps_try_as (i := 2) rfl rfl sc__law_kinds.nd rfl rfl ⟨by rfl, by decide, Or.inl T.g_KeepError⟩ takes0 (fun W pn xe tk po => (pss_one (ps_expr (pe_callDS (ok__law_called T) hr tk (pa_cons (pv 0) (pa_cons (pv 1) pa_nil)))))) (fun a oe cls d pn hz hf => pss_cls (K := K) (cls := cls) (d := d) (names := XN) (fun nm hm e1 e2 => (pss_cons (ps_set (i := 3) sc__law_kinds.nd rfl (Or.inl rfl) (pe_lst (pa_cons (pe_callB (call_isE (T.cls.ex nm hm) (by cases e1; cases e2; exact hz) hf) (by rfl) T.z_isinstance (by decide +kernel) (pa_cons (pv 2) (pa_cons (pe_glob (v := .ref _) (by rfl) T.g_BadDeed rfl) pa_nil))) (pa_cons (pe_callB (call_isE (T.cls.ex nm hm) (by cases e1; cases e2; exact hz) hf) (by rfl) T.z_isinstance (by decide +kernel) (pa_cons (pv 2) (pa_cons (pe_glob (v := .ref _) (by rfl) T.g_BadKey rfl) pa_nil))) (pa_cons (pe_callB (call_isE (T.cls.ex nm hm) (by cases e1; cases e2; exact hz) hf) (by rfl) T.z_isinstance (by decide +kernel) (pa_cons (pv 2) (pa_cons (pe_glob (v := .ref _) (by rfl) T.g_BadTurn rfl) pa_nil))) (pa_cons (pe_callB (call_isE (T.cls.ex nm hm) (by cases e1; cases e2; exact hz) hf) (by rfl) T.z_isinstance (by decide +kernel) (pa_cons (pv 2) (pa_cons (pe_glob (v := .ref _) (by rfl) T.g_OtherDeed rfl) pa_nil))) pa_nil))))))
      (pss_cons (ps_set (i := 3) sc__law_kinds.nd rfl (Or.inl rfl) (pe_op (op_addK K) (pv 3) (pe_lst (pa_cons (pe_callB (call_isE (T.cls.ex nm hm) (by cases e1; cases e2; exact hz) hf) (by rfl) T.z_isinstance (by decide +kernel) (pa_cons (pv 2) (pa_cons (pe_glob (v := .ref _) (by rfl) T.g_NoStep rfl) pa_nil))) (pa_cons (pe_callB (call_isE (T.cls.ex nm hm) (by cases e1; cases e2; exact hz) hf) (by rfl) T.z_isinstance (by decide +kernel) (pa_cons (pv 2) (pa_cons (pe_glob (v := .ref _) (by rfl) T.g_NoKeeper rfl) pa_nil))) (pa_cons (pe_callB (call_isE (T.cls.ex nm hm) (by cases e1; cases e2; exact hz) hf) (by rfl) T.z_isinstance (by decide +kernel) (pa_cons (pv 2) (pa_cons (pe_glob (v := .ref _) (by rfl) T.g_OnlyKeeper rfl) pa_nil))) pa_nil))))))
      (pss_one (ps_ret (pe_op (op_addK K) (pv 3) (pe_lst (pa_cons (pe_callB (call_isE (T.cls.ex nm hm) (by cases e1; cases e2; exact hz) hf) (by rfl) T.z_isinstance (by decide +kernel) (pa_cons (pv 2) (pa_cons (pe_glob (v := .ref _) (by rfl) T.g_OneComing rfl) pa_nil))) (pa_cons (pe_callB (call_isE (T.cls.ex nm hm) (by cases e1; cases e2; exact hz) hf) (by rfl) T.z_isinstance (by decide +kernel) (pa_cons (pv 2) (pa_cons (pe_glob (v := .ref _) (by rfl) T.g_TooMany rfl) pa_nil))) (pa_cons (pe_callB (call_isE (T.cls.ex nm hm) (by cases e1; cases e2; exact hz) hf) (by rfl) T.z_isinstance (by decide +kernel) (pa_cons (pv 2) (pa_cons (pe_bltn (v := .ty "ValueError") (by rfl) T.z_ValueError (by decide +kernel) rfl) pa_nil))) pa_nil))))))))))))
      (pss_one (ps_ret (pe_lst pa_nil)))), ?_⟩
  rintro ds d B Q hl ⟨i, c, n, rfl, hi, h0, rfl⟩ q
  have hx : c ∈ XN := kinds_mem hi
  have hy : ∀ y ∈ kindsL, PySem.W.kitOne K (.ref (He.ga K c)) (.ref (He.ga K y)) = some (isX c y) := fun y hy => T.cls.is c hx y (List.mem_cons_of_mem _ hy)
  have hv := T.cls.ve c hx
  have hm : PySem.W.exmOne K (.ref (He.ga K c)) (.ref (He.ga K "KeepError")) = some true := by
    rw [T.cls.em c hx "KeepError" (by decide)]
    unfold isX
    rw [decide_eq_true (p := ("KeepError" : Str) = "KeepError") rfl, Bool.or_true]
  k_updF
  refine at_rzDrop (rz_callWS (ea_cons (ev_var rfl) (ea_cons (ev_var rfl) ea_nil)) rfl ⟨i, c, n, rfl, hi, h0, rfl⟩) (at_wAs hm fun a => ?_)
  refine at_cls (nm := c) hx ?_
  k_updF
  refine at_setA (d := .list ([isX c "BadDeed", isX c "BadKey", isX c "BadTurn", isX c "OtherDeed"].map .bool)) (ev_lst (ea_cons (ev_isE rfl (hy _ (by decide))) (ea_cons (ev_isE rfl (hy _ (by decide))) (ea_cons (ev_isE rfl (hy _ (by decide))) (ea_cons (ev_isE rfl (hy _ (by decide))) ea_nil)))) (by k_ownIn)) (by k_intsEnd) ?_
  k_updF
  refine at_setA (d := .list ([isX c "BadDeed", isX c "BadKey", isX c "BadTurn", isX c "OtherDeed"].map .bool ++ [isX c "NoStep", isX c "NoKeeper", isX c "OnlyKeeper"].map .bool)) (ev_op (ev_var rfl) (ev_lst (ea_cons (ev_isE rfl (hy _ (by decide))) (ea_cons (ev_isE rfl (hy _ (by decide))) (ea_cons (ev_isE rfl (hy _ (by decide))) ea_nil))) (by k_ownIn)) (RvN.d (rvN_addL (by k_ownIn)))) (by k_intsEnd) ?_
  k_updF
  exact at_rt (ev_op (ev_var rfl) (ev_lst (ea_cons (ev_isE rfl (hy _ (by decide))) (ea_cons (ev_isE rfl (hy _ (by decide))) (ea_cons (ev_isEty rfl hv) ea_nil))) (by k_ownIn)) (RvN.d (rvN_addL (by k_ownIn)))) rfl q

theorem ok_law (T : Tx K mg) (hL : Has K mg "law" s_law) : Def P w K mg base CX0 7 "law" ["_law_script"] (spP 1 R_law) := by
  refine mkP hL b_law sc_law rfl fun f cdv A outer s H E hr => ⟨_, (pss_cons (ps_set (i := 1) sc_law.nd rfl (Or.inr rfl) (pe_op op_mod (pe_callD (ok__law_cell_at T) hr (pa_cons (pv 0) (pa_cons pe_int pa_nil))) pe_int))
      (pss_cons (ps_set (i := 2) sc_law.nd rfl (Or.inl rfl) (pe_op op_mod (pe_callD (ok__law_cell_at T) hr (pa_cons (pv 0) (pa_cons pe_int pa_nil))) (pe_op op_pow pe_int pe_int)))
      (pss_one (ps_ret (pe_cmpR (op_eqK K (hu64 hr)) (pe_callD (ok__law_kinds T) hr (pa_cons (pv 1) (pa_cons (pv 2) pa_nil))) (pe_op (op_addK K) (pe_lc (own := [("_law_k", 3)]) (g := gName 3) (by rfl) sc_law.nd (pi_range1 (by rfl) T.z_range (pa_cons pe_int pa_nil)) (blkOk_by (own := [("_law_k", 3)]) (N := N_law) (sc := defScope s_law) (by decide +kernel)) (fun _ _ _ _ _ => pg_name (i := 3) sc_law.nd rfl (Or.inl rfl)) (fun _ _ _ _ _ => pts_nil) (fun _ _ _ _ _ => (pe_cmpR (op_eqK K (hu64 hr)) (pv 3) (pv 1) (nomark _)))) (pe_lst (pa_cons pe_bl pa_nil))) (nomark _)))))), ?_⟩
  rintro ds d B Q hl ⟨ns, rfl, h63, rfl⟩ q
  l_intsC
  l_intsC
  have h1 := Int.emod_nonneg (cellAt ns 0) (show (9 : Int) ≠ 0 by decide)
  have h2 := Int.emod_lt_of_pos (cellAt ns 0) (show (0 : Int) < 9 by decide)
  have h3 := Int.emod_nonneg (cellAt ns 1) (show (10 ^ Int.toNat 9 : Int) ≠ 0 by decide)
  generalize cellAt ns 1 % 10 ^ Int.toNat 9 = n at h3 ⊢
  generalize cellAt ns 0 % 9 = m at h1 h2 ⊢
  obtain ⟨i, rfl⟩ : ∃ i : Nat, m = (i : Int) := ⟨m.toNat, by omega⟩
  obtain ⟨c, hc⟩ : ∃ c, kindsL[i]? = some c := ⟨_, List.getElem?_eq_getElem (by show i < 9; omega)⟩
  k_updF
  have e9 : ((List.range 9).map fun k : Nat => PyData.bool (decide ((0 + (k : Int)) = (i : Int)))) ++ [.bool true] = (isXs c).map .bool := by
    rw [isXs_eq hc, List.map_append, List.map_map]
    congr 1
    refine List.map_congr_left fun k _ => ?_
    show PyData.bool _ = PyData.bool _
    congr 1
    show _ = decide (k = i)
    by_cases hk : k = i
    · subst hk
      rw [decide_eq_true (by omega), decide_eq_true rfl]
    · rw [decide_eq_false (by omega), decide_eq_false hk]
  refine at_rt (ev_op (ev_kinds (ev_var rfl) (ev_var rfl) hc h3) (ev_is (ev_op (EvN.ev (evN_lcm (j := 3) (fun k : Nat => .int (0 + k)) (List.range 9) (fun k => .bool (decide ((0 + (k : Int)) = (i : Int)))) rfl (ei_rng1 ev_int (by decide) (by decide)) (by decide) fun x hx => ?_)) (ev_lst (ea_cons ev_bl ea_nil) (by k_ownIn)) (RvN.d (rvN_addL (by rw [List.length_map, List.length_range]; decide)))) (congrArg PyData.list e9)) rv_eqBls) rfl q
  exact ev_op (ev_var rfl) (ev_var rfl) rv_eqI

end
/-! ### the head -/
def dd (x : Str) (i : Nat) : He.DefD := ⟨(x, none), x, x, defArgs (topS i), defBody (topS i), defScope (topS i), [], []⟩
def fnL : List He.DefD := ([dd "is_number" 2, dd "is_key" 3, dd "is_deed" 4, dd "done_by" 5, dd "plainly" 6, dd "begun" 20, dd "keeper_of" 21, dd "chain_of" 22, dd "with_keeper" 23, dd "at_end" 24, dd "take" 25, dd "ask" 27, dd "steps_of" 29, dd "passed" 30, dd "backed" 31, dd "grown" 32, dd "done" 33, dd "joined" 35, dd "made_last" 36, dd "fall" 37, dd "come" 38, dd "_law_cell_at" 40, dd "_law_called" 41, dd "_law_kinds" 42, dd "law" 43] : List He.DefD)
def faL : List He.Fa := ([.glo "is_number", .glo "is_key", .glo "is_deed", .glo "done_by", .glo "plainly", .glo "begun", .glo "keeper_of", .glo "chain_of", .glo "with_keeper", .glo "at_end", .glo "take", .glo "ask", .glo "steps_of", .glo "passed", .glo "backed", .glo "grown", .glo "done", .glo "joined", .glo "made_last", .glo "fall", .glo "come", .glo "_law_cell_at", .glo "_law_called", .glo "_law_kinds", .glo "law", .glo "KeepError", .glo "BadDeed", .glo "BadKey", .glo "BadTurn", .glo "OtherDeed"] : List He.Fa) ++ (([.glo "NoStep", .glo "NoKeeper", .glo "OnlyKeeper", .glo "OneComing", .glo "TooMany", .free "ValueError", .free "all", .free "bool", .free "dict", .free "int", .free "isinstance", .free "len", .free "list", .free "max", .free "range", .free "str", .free "tuple", .str "LETTERS" "abcdefghijklmnopqrstuvwxyz", .int "MOST_KEEPERS" 9, .exc "KeepError", .exc "BadDeed", .exc "BadKey", .exc "BadTurn", .exc "OtherDeed", .exc "NoStep", .exc "NoKeeper", .exc "OnlyKeeper", .exc "OneComing", .exc "TooMany"] : List He.Fa))
def exK (K : PySem.W.Frag) : Bool := (K.all fun q => !(q.2.cls == .type "list")) && clsB K XN YN
abbrev Rw : PySem.W.OpenRow := PySem.W.OpenLaw.row PySem.Challenge.rw_chainkeep_k14_refusals_apart
abbrev hkL : PySem.W.Hook := He.hookX 4 faL fnL [] [] exK
def obL (s : PySem.W.SharedT) : He.AlX := He.obsX 4 faL fnL [] [] exK (HandSHeadRun.getT s)
theorem obL_eq (s : PySem.W.SharedT) : obL s = hkL.obs s.abs := He.obsX_eq (HandSHeadRun.getT_eq s)
def nmL : List Str := (["is_number", "is_key", "is_deed", "done_by", "plainly", "begun", "keeper_of", "chain_of", "with_keeper", "at_end", "take", "ask", "steps_of", "passed", "backed", "grown", "done", "joined", "made_last", "fall", "come", "_law_cell_at", "_law_called", "_law_kinds", "KeepError", "BadDeed", "BadKey", "BadTurn", "OtherDeed", "NoStep"] : List Str) ++ ((["NoKeeper", "OnlyKeeper", "OneComing", "TooMany", "LETTERS", "MOST_KEEPERS"] : List Str))
theorem runL (w : World) : HandSHeadRun.RunEq Rw (PySem.W.view Rw.prog [43]) hkL obL 6000 nmL w := by
  intro os
  kernel_rfl
section
variable {K : PySem.W.Frag} {h : Heap} {mg : Str → Option Value}
theorem hasL (X : K.In h) (G : h.Ns mainGlobals mg) {f : He.Fa} {x : Str} {i : Nat} (hf : ∃ fd, FunD K (dd x i).name (dd x i).qual (dd x i).params (dd x i).body (dd x i).scope ((dd x i).dvs K) ((dd x i).kws K) (He.fAd K (dd x i).at_) fd) (hg : mg x = some (.ref (He.ga K x))) : Has K mg x (topS i) := by
  obtain ⟨fd, F⟩ := hf
  exact ⟨_, fd, F, hg⟩
theorem txL (X : K.In h) (G : h.Ns mainGlobals mg) (c : He.SaysD faL fnL K) (m : exK K = true) : Tx K mg where
  z_ValueError := He.free_ok X G (c.fact 35 (f := .free "ValueError") rfl)
  z_all := He.free_ok X G (c.fact 36 (f := .free "all") rfl)
  z_bool := He.free_ok X G (c.fact 37 (f := .free "bool") rfl)
  z_dict := He.free_ok X G (c.fact 38 (f := .free "dict") rfl)
  z_int := He.free_ok X G (c.fact 39 (f := .free "int") rfl)
  z_isinstance := He.free_ok X G (c.fact 40 (f := .free "isinstance") rfl)
  z_len := He.free_ok X G (c.fact 41 (f := .free "len") rfl)
  z_list := He.free_ok X G (c.fact 42 (f := .free "list") rfl)
  z_max := He.free_ok X G (c.fact 43 (f := .free "max") rfl)
  z_range := He.free_ok X G (c.fact 44 (f := .free "range") rfl)
  z_str := He.free_ok X G (c.fact 45 (f := .free "str") rfl)
  z_tuple := He.free_ok X G (c.fact 46 (f := .free "tuple") rfl)
  c_LETTERS := He.str_ok X G (c.fact 47 (f := .str "LETTERS" "abcdefghijklmnopqrstuvwxyz") rfl)
  c_MOST_KEEPERS := He.int_ok X G (c.fact 48 (f := .int "MOST_KEEPERS" 9) rfl)
  f_is_number := hasL (f := .glo "is_number") X G (c.def_ 0 (d := dd "is_number" 2) rfl) (He.glo_ok X G (c.fact 0 (f := .glo "is_number") rfl))
  f_is_key := hasL (f := .glo "is_key") X G (c.def_ 1 (d := dd "is_key" 3) rfl) (He.glo_ok X G (c.fact 1 (f := .glo "is_key") rfl))
  f_is_deed := hasL (f := .glo "is_deed") X G (c.def_ 2 (d := dd "is_deed" 4) rfl) (He.glo_ok X G (c.fact 2 (f := .glo "is_deed") rfl))
  f_done_by := hasL (f := .glo "done_by") X G (c.def_ 3 (d := dd "done_by" 5) rfl) (He.glo_ok X G (c.fact 3 (f := .glo "done_by") rfl))
  f_plainly := hasL (f := .glo "plainly") X G (c.def_ 4 (d := dd "plainly" 6) rfl) (He.glo_ok X G (c.fact 4 (f := .glo "plainly") rfl))
  f_begun := hasL (f := .glo "begun") X G (c.def_ 5 (d := dd "begun" 20) rfl) (He.glo_ok X G (c.fact 5 (f := .glo "begun") rfl))
  f_keeper_of := hasL (f := .glo "keeper_of") X G (c.def_ 6 (d := dd "keeper_of" 21) rfl) (He.glo_ok X G (c.fact 6 (f := .glo "keeper_of") rfl))
  f_chain_of := hasL (f := .glo "chain_of") X G (c.def_ 7 (d := dd "chain_of" 22) rfl) (He.glo_ok X G (c.fact 7 (f := .glo "chain_of") rfl))
  f_with_keeper := hasL (f := .glo "with_keeper") X G (c.def_ 8 (d := dd "with_keeper" 23) rfl) (He.glo_ok X G (c.fact 8 (f := .glo "with_keeper") rfl))
  f_at_end := hasL (f := .glo "at_end") X G (c.def_ 9 (d := dd "at_end" 24) rfl) (He.glo_ok X G (c.fact 9 (f := .glo "at_end") rfl))
  f_take := hasL (f := .glo "take") X G (c.def_ 10 (d := dd "take" 25) rfl) (He.glo_ok X G (c.fact 10 (f := .glo "take") rfl))
  f_ask := hasL (f := .glo "ask") X G (c.def_ 11 (d := dd "ask" 27) rfl) (He.glo_ok X G (c.fact 11 (f := .glo "ask") rfl))
  f_steps_of := hasL (f := .glo "steps_of") X G (c.def_ 12 (d := dd "steps_of" 29) rfl) (He.glo_ok X G (c.fact 12 (f := .glo "steps_of") rfl))
  f_passed := hasL (f := .glo "passed") X G (c.def_ 13 (d := dd "passed" 30) rfl) (He.glo_ok X G (c.fact 13 (f := .glo "passed") rfl))
  f_backed := hasL (f := .glo "backed") X G (c.def_ 14 (d := dd "backed" 31) rfl) (He.glo_ok X G (c.fact 14 (f := .glo "backed") rfl))
  f_grown := hasL (f := .glo "grown") X G (c.def_ 15 (d := dd "grown" 32) rfl) (He.glo_ok X G (c.fact 15 (f := .glo "grown") rfl))
  f_done := hasL (f := .glo "done") X G (c.def_ 16 (d := dd "done" 33) rfl) (He.glo_ok X G (c.fact 16 (f := .glo "done") rfl))
  f_joined := hasL (f := .glo "joined") X G (c.def_ 17 (d := dd "joined" 35) rfl) (He.glo_ok X G (c.fact 17 (f := .glo "joined") rfl))
  f_made_last := hasL (f := .glo "made_last") X G (c.def_ 18 (d := dd "made_last" 36) rfl) (He.glo_ok X G (c.fact 18 (f := .glo "made_last") rfl))
  f_fall := hasL (f := .glo "fall") X G (c.def_ 19 (d := dd "fall" 37) rfl) (He.glo_ok X G (c.fact 19 (f := .glo "fall") rfl))
  f_come := hasL (f := .glo "come") X G (c.def_ 20 (d := dd "come" 38) rfl) (He.glo_ok X G (c.fact 20 (f := .glo "come") rfl))
  f__law_cell_at := hasL (f := .glo "_law_cell_at") X G (c.def_ 21 (d := dd "_law_cell_at" 40) rfl) (He.glo_ok X G (c.fact 21 (f := .glo "_law_cell_at") rfl))
  f__law_called := hasL (f := .glo "_law_called") X G (c.def_ 22 (d := dd "_law_called" 41) rfl) (He.glo_ok X G (c.fact 22 (f := .glo "_law_called") rfl))
  f__law_kinds := hasL (f := .glo "_law_kinds") X G (c.def_ 23 (d := dd "_law_kinds" 42) rfl) (He.glo_ok X G (c.fact 23 (f := .glo "_law_kinds") rfl))
  g_KeepError := He.glo_ok X G (c.fact 25 (f := .glo "KeepError") rfl)
  x_KeepError := He.exc_ok (c.fact 49 (f := .exc "KeepError") rfl)
  g_BadDeed := He.glo_ok X G (c.fact 26 (f := .glo "BadDeed") rfl)
  x_BadDeed := He.exc_ok (c.fact 50 (f := .exc "BadDeed") rfl)
  g_BadKey := He.glo_ok X G (c.fact 27 (f := .glo "BadKey") rfl)
  x_BadKey := He.exc_ok (c.fact 51 (f := .exc "BadKey") rfl)
  g_BadTurn := He.glo_ok X G (c.fact 28 (f := .glo "BadTurn") rfl)
  x_BadTurn := He.exc_ok (c.fact 52 (f := .exc "BadTurn") rfl)
  g_OtherDeed := He.glo_ok X G (c.fact 29 (f := .glo "OtherDeed") rfl)
  x_OtherDeed := He.exc_ok (c.fact 53 (f := .exc "OtherDeed") rfl)
  g_NoStep := He.glo_ok X G (c.fact 30 (f := .glo "NoStep") rfl)
  x_NoStep := He.exc_ok (c.fact 54 (f := .exc "NoStep") rfl)
  g_NoKeeper := He.glo_ok X G (c.fact 31 (f := .glo "NoKeeper") rfl)
  x_NoKeeper := He.exc_ok (c.fact 55 (f := .exc "NoKeeper") rfl)
  g_OnlyKeeper := He.glo_ok X G (c.fact 32 (f := .glo "OnlyKeeper") rfl)
  x_OnlyKeeper := He.exc_ok (c.fact 56 (f := .exc "OnlyKeeper") rfl)
  g_OneComing := He.glo_ok X G (c.fact 33 (f := .glo "OneComing") rfl)
  x_OneComing := He.exc_ok (c.fact 57 (f := .exc "OneComing") rfl)
  g_TooMany := He.glo_ok X G (c.fact 34 (f := .glo "TooMany") rfl)
  x_TooMany := He.exc_ok (c.fact 58 (f := .exc "TooMany") rfl)
  cls := clsB_ok (Bool.and_eq_true_iff.mp m).2
theorem lawL (X : K.In h) (G : h.Ns mainGlobals mg) (c : He.SaysD faL fnL K) : Has K mg "law" s_law := hasL (f := .glo "law") X G (c.def_ 24 (d := dd "law" 43) rfl) (He.glo_ok X G (c.fact 24 (f := .glo "law") rfl))
theorem rdL (m : exK K = true) {H : Hp} {a : Addr} {xs : List V} (s : SqL K H a xs) : Rd H a (.lst xs) := by
  rcases s with s | ⟨o, its, n, hk, hc, _⟩
  · exact s
  · exfalso
    have h0 : (K.all fun q => !(q.2.cls == .type "list")) = true := by
      first | exact m | exact (Bool.and_eq_true_iff.mp m).1 | (unfold exK at m; simp only [Bool.and_eq_true] at m; simp only [m])
    have h1 := List.all_eq_true.mp h0 _ (He.lookup_mem hk)
    rw [hc] at h1
    revert h1
    decide
end
end Ck
open PySem PySem.W PySem.Calls PyProof.Rows
set_option maxRecDepth 100000 in
set_option maxHeartbeats 8000000 in
theorem PySem.Challenge.cw_chainkeep_k14_refusals_apart_holds : PySem.Challenge.rw_chainkeep_k14_refusals_apart.Holds := by
  w_on; o_law
  refine HandSHeadRun.head_any (r := OpenLaw.row PySem.Challenge.rw_chainkeep_k14_refusals_apart) (q := view (OpenLaw.row PySem.Challenge.rw_chainkeep_k14_refusals_apart).prog [43]) (H := Ck.hkL) (ob := Ck.obL) (M := 6000) (loose := Ck.nmL) (d := HandSHeadRun.topDef (OpenLaw.row PySem.Challenge.rw_chainkeep_k14_refusals_apart).prog 43) (kwd := []) Ck.obL_eq
    (by kernel_rfl) (fun s => by kernel_rfl) Ck.runL (by kernel_rfl) (by kernel_rfl) (by kernel_rfl) (by rfl) (by first | assumption | decide +kernel) (by decide +kernel) ⟨rfl, rfl, rfl, rfl, rfl, by decide +kernel⟩ ?hw ?hc
  case hw => w_witness2
  case hc =>
    refine L2.walk_ofE (l := PySem.Challenge.rw_chainkeep_k14_refusals_apart) (n := 63) (k := 7) (x := "_law_script") (CX := L2.CX0) rfl (by decide) (by kernel_rfl) ⟨rfl, by decide, by decide⟩ ?F (fun _ _ _ _ z => z)
    intro w mg fa h Y G hmg0
    obtain ⟨K, KX, c⟩ := Y
    have hmg : mg ("law" : PySem.Str) = some (.ref fa) := by
      have e : (HandSHeadRun.topDef (OpenLaw.row PySem.Challenge.rw_chainkeep_k14_refusals_apart).prog 43).name = ("law" : PySem.Str) := by kernel_rfl
      rw [← e]
      exact hmg0
    have T := Ck.txL KX G c.t.d c.more
    obtain ⟨f, fd, F, g⟩ := Ck.lawL KX G c.t.d
    have e := hmg.symm.trans g
    cases e
    refine ⟨K, fd, Ck.spP 1 Ck.R_law, KX, fun s v => L2.FunD.bindsA F Ck.b_law s [v] rfl, fun H a ns hl _ hS => ?_, fun base _ _ => ?_⟩
    · exact ⟨[Ck.scr ns], .bool true, H, Ck.Ex.rfl' H, .cons (.lst (Ck.rdL c.more hS) (Ck.Rps.ofInts ns)) .nil, rfl, ⟨ns, rfl, hl, rfl⟩, fun v G' H' _ r => by cases r; rfl⟩
    · obtain ⟨f2, fd2, g2, _, _, F2, _, _, _, lk2⟩ := (Ck.ok_law T ⟨_, fd, F, g⟩ : Ck.Def (PySem.Challenge.rw_chainkeep_k14_refusals_apart).prog w K mg base L2.CX0 7 "law" ["_law_script"] (Ck.spP 1 Ck.R_law))
      have e2 := g.symm.trans g2
      cases e2
      obtain ⟨_, _, _, _, _, _, _, _, _, _, _, lk, _⟩ := F.ex
      have e3 := lk.symm.trans lk2
      cases e3
      exact F2
