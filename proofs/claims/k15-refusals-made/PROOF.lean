import PyProof.Rows.All
import Wide.All
import OpenK.AllK
import Wide.FinOn
import KE.KStateDown
import HandS.ForMost
import HandS.ForExc
import HandS.IsInst
import HandS.Deep
import HandS.TupAny
import HandS.Style
import HandS.Sort
import HandS.More
import HandS.Conv
import HandS.Defaults
import HandS.WordsExc
import HandS.TryMany
import HandS.ExcIs
import HandS.ExcValue
import HandS.DictComp
import HandS.ListEq
import HandS.DictEq
import HandS.Text
import PyProof.Rows.StrMeet
import HandS.Head0
import HandS.Head1
import HandS.Head2
import HandS.HeadEnd
import HandS.HeadHook1
import HandS.HeadHook2
import HandS.HeadHook3
import HandS.HeadHook4
import PySem.Challenge.RW_chainkeep_k15_refusals_made
set_option Elab.async false
set_option linter.all false
set_option maxRecDepth 100000
set_option maxHeartbeats 4000000
set_option autoImplicit false
/-! Data-level calculus over HandS: values as PyData, an immutable heap G beside the heap H, slots with owned lists. -/
namespace Ck
open PySem PySem.Spec L2

abbrev Ex (H H' : Hp) : Prop := ∀ b o, H b = some o → H' b = some o
theorem Ex.rfl' (H : Hp) : Ex H H := fun _ _ h => h
theorem Ex.tr {H H1 H2 : Hp} (a : Ex H H1) (b : Ex H1 H2) : Ex H H2 := fun c o h => b c o (a c o h)
theorem Ex.no {H H' : Hp} (e : Ex H H') {a : Addr} (h : H' a = none) : H a = none := by
  cases q : H a with
  | none => rfl
  | some o => rw [e a o q] at h; cases h
theorem Ex.new {H : Hp} {p : Addr} {o : HO} (h : H p = none) : Ex H (upd H p o) := fun a u e => by
  rw [upd_ne (ne_of_none e h)]; exact e
theorem Ex.rd {H H' : Hp} (e : Ex H H') {a : Addr} {u : HO} (h : Rd H a u) : Rd H' a u := by
  rcases h with h | ⟨o, h⟩
  · exact .inl (e _ _ h)
  · exact .inr ⟨o, e _ _ h⟩

def kvI (p : Str × Int) : Key × V := (Sum.inr p.1, .int p.2)
def kvD (p : Str × Int) : PyData × PyData := (.str p.1, .int p.2)

mutual
inductive Rp (G : Hp) : V → PyData → Prop
  | non : Rp G .non .none
  | bl (b : Bool) : Rp G (.bl b) (.bool b)
  | int (i : Int) : Rp G (.int i) (.int i)
  | str (x : Str) : Rp G (.str x) (.str x)
  | lst {a : Addr} {xs : List V} {ds : List PyData} : Rd G a (.lst xs) → Rps G xs ds → Rp G (.ref a) (.list ds)
  | tup {a : Addr} {xs : List V} {ds : List PyData} : Rd G a (.tup xs) → Rps G xs ds → Rp G (.ref a) (.tuple ds)
  | dct {a : Addr} {kvs : List (Str × Int)} {ps : List (PyData × PyData)} : G a = some (.dK (kvs.map kvI)) → ps = kvs.map kvD → Rp G (.ref a) (.dict ps)
inductive Rps (G : Hp) : List V → List PyData → Prop
  | nil : Rps G [] []
  | cons {v : V} {vs : List V} {d : PyData} {ds : List PyData} : Rp G v d → Rps G vs ds → Rps G (v :: vs) (d :: ds)
end
mutual
theorem Rp.mono {G G' : Hp} (e : Ex G G') : ∀ (d : PyData) (v : V), Rp G v d → Rp G' v d
  | .none, _, h => by cases h; exact .non
  | .bool b, _, h => by cases h; exact .bl b
  | .int i, _, h => by cases h; exact .int i
  | .str x, _, h => by cases h; exact .str x
  | .list ds, _, h => by
    cases h with
    | lst h1 h2 => exact .lst (e.rd h1) (Rps.mono e ds _ h2)
  | .tuple ds, _, h => by
    cases h with
    | tup h1 h2 => exact .tup (e.rd h1) (Rps.mono e ds _ h2)
  | .dict ps, _, h => by
    cases h with
    | dct h1 h2 => exact .dct (e _ _ h1) h2
theorem Rps.mono {G G' : Hp} (e : Ex G G') : ∀ (ds : List PyData) (vs : List V), Rps G vs ds → Rps G' vs ds
  | [], _, h => by cases h; exact .nil
  | d :: ds, _, h => by
    cases h with
    | cons h1 h2 => exact .cons (Rp.mono e d _ h1) (Rps.mono e ds _ h2)
end
theorem Rp.up {G G' : Hp} {v : V} {d : PyData} (h : Rp G v d) (e : Ex G G') : Rp G' v d := Rp.mono e d v h
theorem Rps.up {G G' : Hp} {vs : List V} {ds : List PyData} (h : Rps G vs ds) (e : Ex G G') : Rps G' vs ds := Rps.mono e ds vs h
section
variable {K : PySem.W.Frag} {G H : Hp}
theorem rd_sql {a : Addr} {xs : List V} (h : Rd G a (.lst xs)) : SqL K G a xs := .inl h
theorem rd_sqt {a : Addr} {xs : List V} (h : Rd G a (.tup xs)) : SqT K G a xs := .inl h
theorem Rps.length : ∀ {vs : List V} {ds : List PyData}, Rps G vs ds → vs.length = ds.length
  | _, _, .nil => rfl
  | _, _, .cons _ t => congrArg (· + 1) (Rps.length t)
theorem Rps.get : ∀ {vs : List V} {ds : List PyData} {i : Nat} {d : PyData}, Rps G vs ds → ds[i]? = some d → ∃ v, vs[i]? = some v ∧ Rp G v d
  | _, _, _, _, .nil, e => by simp at e
  | _, _, 0, _, .cons r _, e => by simp at e; subst e; exact ⟨_, rfl, r⟩
  | _, _, i + 1, d, .cons _ t, e => by
    obtain ⟨v, h1, h2⟩ := Rps.get (i := i) (d := d) t (by simpa using e)
    exact ⟨v, by simpa using h1, h2⟩
theorem Rps.at : ∀ {vs : List V} {ds : List PyData} {i : Nat} {v : V}, Rps G vs ds → vs[i]? = some v → ∃ d, ds[i]? = some d ∧ Rp G v d
  | _, _, _, _, .nil, e => by simp at e
  | _, _, 0, _, .cons r _, e => by simp at e; subst e; exact ⟨_, rfl, r⟩
  | _, _, i + 1, v, .cons _ t, e => by
    obtain ⟨d, h1, h2⟩ := Rps.at (i := i) (v := v) t (by simpa using e)
    exact ⟨d, by simpa using h1, h2⟩
theorem Rps.app : ∀ {vs ws : List V} {ds es : List PyData}, Rps G vs ds → Rps G ws es → Rps G (vs ++ ws) (ds ++ es)
  | _, _, _, _, .nil, s => s
  | _, _, _, _, .cons r t, s => .cons r (Rps.app t s)
theorem Rps.take : ∀ {vs : List V} {ds : List PyData} (n : Nat), Rps G vs ds → Rps G (vs.take n) (ds.take n)
  | _, _, 0, _ => .nil
  | _, _, _ + 1, .nil => .nil
  | _, _, n + 1, .cons r t => .cons r (Rps.take n t)
theorem Rps.drop : ∀ {vs : List V} {ds : List PyData} (n : Nat), Rps G vs ds → Rps G (vs.drop n) (ds.drop n)
  | _, _, 0, r => r
  | _, _, _ + 1, .nil => .nil
  | _, _, n + 1, .cons _ t => Rps.drop n t
theorem Rps.set {v : V} {d : PyData} (r : Rp G v d) : ∀ {vs : List V} {ds : List PyData} (i : Nat), Rps G vs ds → Rps G (vs.set i v) (ds.set i d)
  | _, _, _, .nil => .nil
  | _, _, 0, .cons _ t => .cons r t
  | _, _, i + 1, .cons q t => .cons q (Rps.set r i t)
theorem Rps.rev : ∀ {vs : List V} {ds : List PyData}, Rps G vs ds → Rps G vs.reverse ds.reverse
  | _, _, .nil => .nil
  | _, _, .cons r t => by
    rw [List.reverse_cons, List.reverse_cons]
    exact (Rps.rev t).app (.cons r .nil)
theorem Rps.ints : ∀ {vs : List V} {ns : List Int}, Rps G vs (ns.map PyData.int) → vs = ns.map V.int
  | _, [], h => by cases h; rfl
  | _, n :: ns, h => by
    cases h with
    | cons h1 h2 => cases h1; rw [Rps.ints h2]; rfl
theorem Rps.ofInts : ∀ (ns : List Int), Rps G (ns.map V.int) (ns.map PyData.int)
  | [] => .nil
  | n :: ns => .cons (.int n) (Rps.ofInts ns)
theorem Rps.strs : ∀ {vs : List V} {ns : List Str}, Rps G vs (ns.map PyData.str) → vs = ns.map V.str
  | _, [], h => by cases h; rfl
  | _, n :: ns, h => by
    cases h with
    | cons h1 h2 => cases h1; rw [Rps.strs h2]; rfl
theorem Rps.ofStrs : ∀ (ns : List Str), Rps G (ns.map V.str) (ns.map PyData.str)
  | [] => .nil
  | n :: ns => .cons (.str n) (Rps.ofStrs ns)
theorem Rps.bls : ∀ {vs : List V} {ns : List Bool}, Rps G vs (ns.map PyData.bool) → vs = ns.map V.bl
  | _, [], h => by cases h; rfl
  | _, n :: ns, h => by
    cases h with
    | cons h1 h2 => cases h1; rw [Rps.bls h2]; rfl
theorem Rps.ofBls : ∀ (ns : List Bool), Rps G (ns.map V.bl) (ns.map PyData.bool)
  | [] => .nil
  | n :: ns => .cons (.bl n) (Rps.ofBls ns)
mutual
theorem Rp.dp : ∀ (d : PyData) (v : V), d.canLay0 = true → Rp G v d → Dp K G v d
  | .none, _, _, h => by cases h; exact .non
  | .bool b, _, _, h => by cases h; exact .bl b
  | .int i, _, _, h => by cases h; exact .int i
  | .str x, _, _, h => by cases h; exact .str x
  | .list ds, _, c, h => by
    cases h with
    | lst h1 h2 => exact .lst (rd_sql h1) (Rps.dps ds _ (by simpa only [PyData.canLay0] using c) h2)
  | .tuple ds, _, c, h => by
    cases h with
    | tup h1 h2 => exact .tup (rd_sqt h1) (Rps.dps ds _ (by simpa only [PyData.canLay0] using c) h2)
  | .dict ps, _, c, h => by simp [PyData.canLay0] at c
theorem Rps.dps : ∀ (ds : List PyData) (vs : List V), PyData.canLayAll0 ds = true → Rps G vs ds → DpAll K G vs ds
  | [], _, _, h => by cases h; exact .nil
  | d :: ds, _, c, h => by
    cases h with
    | cons h1 h2 =>
      have c' : d.canLay0 = true ∧ PyData.canLayAll0 ds = true := by simpa only [PyData.canLayAll0, Bool.and_eq_true] using c
      exact .cons (Rp.dp d _ c'.1 h1) (Rps.dps ds _ c'.2 h2)
end
theorem Rp.toDp {v : V} {d : PyData} (h : Rp G v d) (c : SeqAt.shaped d = true) : Dp K G v d := Rp.dp d v (SeqAt.canLay_of_shaped c) h
end

/-! ### steps of the two heaps -/
structure Stp (G H G' H' : Hp) : Prop where
  g : Ex G G'
  h : Ex H H'
  gh : Ex G' H'
  nw : ∀ a o, H a = some o → G a = none → G' a = none
theorem Stp.rfl' {G H : Hp} (e : Ex G H) : Stp G H G H := ⟨Ex.rfl' G, Ex.rfl' H, e, fun _ _ _ h => h⟩
theorem Stp.tr {G H G1 H1 G2 H2 : Hp} (a : Stp G H G1 H1) (b : Stp G1 H1 G2 H2) : Stp G H G2 H2 :=
  ⟨a.g.tr b.g, a.h.tr b.h, b.gh, fun x o h1 h2 => b.nw x o (a.h x o h1) (a.nw x o h1 h2)⟩
theorem Stp.new {G H : Hp} (e : Ex G H) {p : Addr} {o : HO} (hp : H p = none) : Stp G H (upd G p o) (upd H p o) := by
  refine ⟨Ex.new (e.no hp), Ex.new hp, fun b u q => ?_, fun a u h1 h2 => ?_⟩
  · by_cases hb : b = p
    · subst hb; rw [upd_same] at q ⊢; exact q
    · rw [upd_ne hb] at q ⊢; exact e b u q
  · rw [upd_ne (ne_of_none h1 hp)]; exact h2
theorem Stp.newH {G H : Hp} (e : Ex G H) {p : Addr} {o : HO} (hp : H p = none) : Stp G H G (upd H p o) :=
  ⟨Ex.rfl' G, Ex.new hp, e.tr (Ex.new hp), fun _ _ _ h => h⟩
/-- an owned new list is handed over -/
theorem Stp.give {G H G' H' : Hp} (s : Stp G H G' H') {a : Addr} {o : HO} (h0 : H a = none) (hg : G' a = none) (hh : H' a = some o) : Stp G H (upd G' a o) H' := by
  refine ⟨s.g.tr (Ex.new hg), s.h, fun b u q => ?_, fun x u h1 h2 => ?_⟩
  · by_cases hb : b = a
    · subst hb; rw [upd_same] at q; cases q; exact hh
    · rw [upd_ne hb] at q; exact s.gh b u q
  · rw [upd_ne (ne_of_none h1 h0)]; exact s.nw x u h1 h2

/-! ### owned trees: every list and dict in it is one's own; its tuples and what they hold lie in G -/
mutual
inductive Ro (G H : Hp) : V → PyData → List Addr → Prop
  | non : Ro G H .non .none []
  | bl (b : Bool) : Ro G H (.bl b) (.bool b) []
  | int (i : Int) : Ro G H (.int i) (.int i) []
  | str (x : Str) : Ro G H (.str x) (.str x) []
  | lst {a : Addr} {xs : List V} {ds : List PyData} {f : List Addr} : H a = some (.lst xs) → Ros G H xs ds f → Ro G H (.ref a) (.list ds) (a :: f)
  | tup {a : Addr} {xs : List V} {ds : List PyData} {f : List Addr} : Rd G a (.tup xs) → Ros G H xs ds f → Ro G H (.ref a) (.tuple ds) f
  | dct {a : Addr} {kvs : List (Str × Int)} {ps : List (PyData × PyData)} : H a = some (.dK (kvs.map kvI)) → ps = kvs.map kvD → Ro G H (.ref a) (.dict ps) [a]
inductive Ros (G H : Hp) : List V → List PyData → List Addr → Prop
  | nil : Ros G H [] [] []
  | cons {v : V} {vs : List V} {d : PyData} {ds : List PyData} {f g : List Addr} : Ro G H v d f → Ros G H vs ds g → Ros G H (v :: vs) (d :: ds) (f ++ g)
end
mutual
theorem Ro.fr {G H G' H' : Hp} (e : ∀ a xs, Rd G a (.tup xs) → Rd G' a (.tup xs)) : ∀ (d : PyData) (v : V) (f : List Addr), Ro G H v d f → (∀ a ∈ f, H' a = H a) → Ro G' H' v d f
  | .none, _, _, h, _ => by cases h; exact .non
  | .bool b, _, _, h, _ => by cases h; exact .bl b
  | .int i, _, _, h, _ => by cases h; exact .int i
  | .str x, _, _, h, _ => by cases h; exact .str x
  | .list ds, _, _, h, q => by
    cases h with
    | lst h1 h2 => exact .lst ((q _ List.mem_cons_self).trans h1) (Ros.fr e ds _ _ h2 fun a m => q a (List.mem_cons_of_mem _ m))
  | .tuple ds, _, _, h, q => by
    cases h with
    | tup h1 h2 => exact .tup (e _ _ h1) (Ros.fr e ds _ _ h2 q)
  | .dict ps, _, _, h, q => by
    cases h with
    | dct h1 h2 => exact .dct ((q _ List.mem_cons_self).trans h1) h2
theorem Ros.fr {G H G' H' : Hp} (e : ∀ a xs, Rd G a (.tup xs) → Rd G' a (.tup xs)) : ∀ (ds : List PyData) (vs : List V) (f : List Addr), Ros G H vs ds f → (∀ a ∈ f, H' a = H a) → Ros G' H' vs ds f
  | [], _, _, h, _ => by cases h; exact .nil
  | d :: ds, _, _, h, q => by
    cases h with
    | cons h1 h2 => exact .cons (Ro.fr e d _ _ h1 fun a m => q a (List.mem_append_left _ m)) (Ros.fr e ds _ _ h2 fun a m => q a (List.mem_append_right _ m))
end
mutual
/-- seen as data: the owned ones lie in G', too -/
theorem Ro.rp {G H G' : Hp} (e : ∀ a xs, Rd G a (.tup xs) → Rd G' a (.tup xs)) : ∀ (d : PyData) (v : V) (f : List Addr), Ro G H v d f → (∀ a ∈ f, G' a = H a) → Rp G' v d
  | .none, _, _, h, _ => by cases h; exact .non
  | .bool b, _, _, h, _ => by cases h; exact .bl b
  | .int i, _, _, h, _ => by cases h; exact .int i
  | .str x, _, _, h, _ => by cases h; exact .str x
  | .list ds, _, _, h, q => by
    cases h with
    | lst h1 h2 => exact .lst (.inl ((q _ List.mem_cons_self).trans h1)) (Ros.rp e ds _ _ h2 fun a m => q a (List.mem_cons_of_mem _ m))
  | .tuple ds, _, _, h, q => by
    cases h with
    | tup h1 h2 => exact .tup (e _ _ h1) (Ros.rp e ds _ _ h2 q)
  | .dict ps, _, _, h, q => by
    cases h with
    | dct h1 h2 => exact .dct ((q _ List.mem_cons_self).trans h1) h2
theorem Ros.rp {G H G' : Hp} (e : ∀ a xs, Rd G a (.tup xs) → Rd G' a (.tup xs)) : ∀ (ds : List PyData) (vs : List V) (f : List Addr), Ros G H vs ds f → (∀ a ∈ f, G' a = H a) → Rps G' vs ds
  | [], _, _, h, _ => by cases h; exact .nil
  | d :: ds, _, _, h, q => by
    cases h with
    | cons h1 h2 => exact .cons (Ro.rp e d _ _ h1 fun a m => q a (List.mem_append_left _ m)) (Ros.rp e ds _ _ h2 fun a m => q a (List.mem_append_right _ m))
end
/-- a list or a dict -/
def Mt (H : Hp) (a : Addr) : Prop := (∃ xs, H a = some (.lst xs)) ∨ ∃ kvs, H a = some (.dK kvs)
mutual
theorem Ro.mt {G H : Hp} : ∀ (d : PyData) (v : V) (f : List Addr), Ro G H v d f → ∀ a ∈ f, Mt H a
  | .none, _, _, h, a, m => by cases h; cases m
  | .bool b, _, _, h, a, m => by cases h; cases m
  | .int i, _, _, h, a, m => by cases h; cases m
  | .str x, _, _, h, a, m => by cases h; cases m
  | .list ds, _, _, h, a, m => by
    cases h with
    | lst h1 h2 =>
      rcases List.mem_cons.mp m with rfl | m
      · exact .inl ⟨_, h1⟩
      · exact Ros.mt ds _ _ h2 a m
  | .tuple ds, _, _, h, a, m => by
    cases h with
    | tup h1 h2 => exact Ros.mt ds _ _ h2 a m
  | .dict ps, _, _, h, a, m => by
    cases h with
    | dct h1 h2 =>
      rcases List.mem_cons.mp m with rfl | m
      · exact .inr ⟨_, h1⟩
      · cases m
theorem Ros.mt {G H : Hp} : ∀ (ds : List PyData) (vs : List V) (f : List Addr), Ros G H vs ds f → ∀ a ∈ f, Mt H a
  | [], _, _, h, a, m => by cases h; cases m
  | d :: ds, _, _, h, a, m => by
    cases h with
    | cons h1 h2 =>
      rcases List.mem_append.mp m with m | m
      · exact Ro.mt d _ _ h1 a m
      · exact Ros.mt ds _ _ h2 a m
end
mutual
/-- no list, no dict in it -/
def noL : PyData → Bool
  | .list _ => false
  | .dict _ => false
  | .tuple ds => noLs ds
  | _ => true
def noLs : List PyData → Bool
  | [] => true
  | d :: ds => noL d && noLs ds
end
mutual
theorem Rp.ro {G H : Hp} : ∀ (d : PyData) (v : V), noL d = true → Rp G v d → Ro G H v d []
  | .none, _, _, h => by cases h; exact .non
  | .bool b, _, _, h => by cases h; exact .bl b
  | .int i, _, _, h => by cases h; exact .int i
  | .str x, _, _, h => by cases h; exact .str x
  | .list ds, _, c, h => by simp [noL] at c
  | .tuple ds, _, c, h => by
    cases h with
    | tup h1 h2 => exact .tup h1 (Rps.ros ds _ (by simpa only [noL] using c) h2)
  | .dict ps, _, c, h => by simp [noL] at c
theorem Rps.ros {G H : Hp} : ∀ (ds : List PyData) (vs : List V), noLs ds = true → Rps G vs ds → Ros G H vs ds []
  | [], _, _, h => by cases h; exact .nil
  | d :: ds, _, c, h => by
    cases h with
    | cons h1 h2 =>
      have c' : noL d = true ∧ noLs ds = true := by simpa only [noLs, Bool.and_eq_true] using c
      exact Ros.cons (f := []) (g := []) (Rp.ro d _ c'.1 h1) (Rps.ros ds _ c'.2 h2)
end
theorem Rp.noL {G G' : Hp} {v : V} {d : PyData} (h : Rp G v d) (c : noL d = true) (e : ∀ a xs, Rd G a (.tup xs) → Rd G' a (.tup xs)) : Rp G' v d :=
  Ro.rp e d v [] (Rp.ro (H := G) d v c h) fun _ m => by cases m
theorem Rps.noL {G G' : Hp} {v : List V} {d : List PyData} (h : Rps G v d) (c : noLs d = true) (e : ∀ a xs, Rd G a (.tup xs) → Rd G' a (.tup xs)) : Rps G' v d :=
  Ros.rp e d v [] (Rps.ros (H := G) d v c h) fun _ m => by cases m

theorem Ros.len {G H : Hp} : ∀ (ds : List PyData) (vs : List V) (f : List Addr), Ros G H vs ds f → vs.length = ds.length
  | [], _, _, h => by cases h; rfl
  | d :: ds, _, _, h => by
    cases h with
    | cons h1 h2 => exact congrArg (· + 1) (Ros.len ds _ _ h2)
section
open Classical
/-- new ones are handed over -/
theorem Stp.giveL {G H G' H' : Hp} (s : Stp G H G' H') (f : List Addr) (hf : ∀ a ∈ f, H a = none ∧ G' a = none) :
    Stp G H (fun a => if a ∈ f then H' a else G' a) H' ∧ (∀ a xs, Rd G' a (.tup xs) → Rd (fun a => if a ∈ f then H' a else G' a) a (.tup xs)) ∧ ∀ a ∈ f, (if a ∈ f then H' a else G' a) = H' a := by
  have e : Ex G' (fun a => if a ∈ f then H' a else G' a) := fun a o q => by
    by_cases m : a ∈ f
    · rw [(hf a m).2] at q; cases q
    · show (if a ∈ f then H' a else G' a) = _
      rw [if_neg m]; exact q
  refine ⟨⟨s.g.tr e, s.h, fun a o q => ?_, fun a o q q' => ?_⟩, fun a xs r => e.rd r, fun a m => if_pos m⟩
  · by_cases m : a ∈ f
    · have q' : (if a ∈ f then H' a else G' a) = some o := q
      rw [if_pos m] at q'; exact q'
    · have q' : (if a ∈ f then H' a else G' a) = some o := q
      rw [if_neg m] at q'; exact s.gh a o q'
  · show (if a ∈ f then H' a else G' a) = none
    by_cases m : a ∈ f
    · rw [(hf a m).1] at q; cases q
    · rw [if_neg m]; exact s.nw a o q q'
end
/-! ### slots -/
inductive Sl where
  | un
  | d (x : PyData)
  | ex (a : Addr)
  | own (ds : List PyData)
  | ownD (kvs : List (Str × Int))
  | ow (x : PyData)
  | dl (kvs : List (Str × Int))
  | sn (x : PyData)
  | oa (a : Addr) (ds : List PyData)
  | ov (v : V) (x : PyData)
  | gx (φ : Hp → Option (Option V) → Prop)
/-- f: what is one's own -/
def SlOk (G H : Hp) (o : Option (Option V)) (f : List Addr) : Sl → Prop
  | .un => True
  | .d x => ∃ v, o = some (some v) ∧ Rp G v x
  | .ex a => o = some (some (.ref a))
  | .own ds => ∃ a vs, o = some (some (.ref a)) ∧ a ∈ f ∧ H a = some (.lst vs) ∧ Rps G vs ds
  | .ownD kvs => ∃ a, o = some (some (.ref a)) ∧ a ∈ f ∧ H a = some (.dK (kvs.map kvI))
  | .ow x => ∃ v g, o = some (some v) ∧ Ro G H v x g ∧ g.Nodup ∧ ∀ a ∈ g, a ∈ f
  | .dl kvs => ∃ a, o = some (some (.ref a)) ∧ Rd G a (.dK (kvs.map kvI))
  | .sn x => ∃ p a vx, o = some (some (.ref p)) ∧ Rd G p (.tup [.ref a, vx]) ∧ Rp G vx x
  | .oa a ds => ∃ vs, o = some (some (.ref a)) ∧ a ∈ f ∧ H a = some (.lst vs) ∧ Rps G vs ds
  | .ov v x => ∃ g, o = some (some v) ∧ Ro G H v x g ∧ g.Nodup ∧ ∀ a ∈ g, a ∈ f
  | .gx φ => ∀ G', Ex G G' → φ G' o
/-- where one began: the immutable heap that a loop holds on to; the two heaps at the def's entry (less what the def may change of it) -/
structure Bs where
  gb : Hp
  g0 : Hp
  h0 : Hp
structure OkF (B : Bs) (G : Hp) (σ : St) (H : Hp) (Γ : List Sl) (F : Nat → List Addr) : Prop where
  eb : Ex B.gb G
  st : Stp B.g0 B.h0 G H
  len : σ.length = Γ.length
  sl : ∀ (i : Nat) (s : Sl), Γ[i]? = some s → SlOk G H σ[i]? (F i) s
  fr : ∀ (i : Nat) (a : Addr), a ∈ F i → B.h0 a = none ∧ G a = none ∧ Mt H a
  ap : ∀ (i j : Nat) (a : Addr), i ≠ j → a ∈ F i → a ∈ F j → False
def Ok (B : Bs) (G : Hp) (σ : St) (H : Hp) (Γ : List Sl) : Prop := ∃ F, OkF B G σ H Γ F
section
variable {B : Bs} {G G' H H' : Hp} {σ : St} {Γ : List Sl} {F : Nat → List Addr}
theorem Mt.some {a : Addr} (h : Mt H a) : ∃ o, H a = some o := by
  rcases h with ⟨_, h⟩ | ⟨_, h⟩ <;> exact ⟨_, h⟩
theorem Mt.of {a : Addr} (h : Mt H a) (e : H' a = H a) : Mt H' a := by
  rcases h with ⟨_, h⟩ | ⟨_, h⟩
  · exact .inl ⟨_, e.trans h⟩
  · exact .inr ⟨_, e.trans h⟩
theorem Mt.ex {a : Addr} (h : Mt H a) (e : Ex H H') : H' a = H a := by
  obtain ⟨o, q⟩ := h.some
  rw [q]; exact e a o q
theorem exTup (e : Ex G G') : ∀ a xs, Rd G a (.tup xs) → Rd G' a (.tup xs) := fun _ _ h => e.rd h
/-- the frame rule -/
theorem SlOk.fr {o : Option (Option V)} {f : List Addr} {s : Sl} (h : SlOk G H o f s) (e : Ex G G') (q : ∀ a ∈ f, H' a = H a) : SlOk G' H' o f s := by
  cases s with
  | un => trivial
  | d x => obtain ⟨v, e1, r⟩ := h; exact ⟨v, e1, r.up e⟩
  | ex a => exact h
  | own ds => obtain ⟨a, vs, e1, m, hh, r⟩ := h; exact ⟨a, vs, e1, m, (q a m).trans hh, r.up e⟩
  | ownD kvs => obtain ⟨a, e1, m, hh⟩ := h; exact ⟨a, e1, m, (q a m).trans hh⟩
  | ow x => obtain ⟨v, g, e1, r, nd, m⟩ := h; exact ⟨v, g, e1, r.fr (exTup e) _ _ _ fun a ha => q a (m a ha), nd, m⟩
  | dl kvs => obtain ⟨a, e1, r⟩ := h; exact ⟨a, e1, e.rd r⟩
  | sn x => obtain ⟨p, a, vx, e1, r, rx⟩ := h; exact ⟨p, a, vx, e1, e.rd r, rx.up e⟩
  | oa a ds => obtain ⟨vs, e1, m, hh, r⟩ := h; exact ⟨vs, e1, m, (q a m).trans hh, r.up e⟩
  | ov v x => obtain ⟨g, e1, r, nd, m⟩ := h; exact ⟨g, e1, r.fr (exTup e) _ _ _ fun a ha => q a (m a ha), nd, m⟩
  | gx φ => exact fun G2 e2 => h G2 (e.tr e2)
theorem OkF.step (k : OkF B G σ H Γ F) (p : Stp G H G' H') : OkF B G' σ H' Γ F :=
  ⟨k.eb.tr p.g, k.st.tr p, k.len, fun i s e => (k.sl i s e).fr p.g fun a m => (k.fr i a m).2.2.ex p.h, fun i a m => by
    obtain ⟨h0, hg, hm⟩ := k.fr i a m
    obtain ⟨o, q⟩ := hm.some
    exact ⟨h0, p.nw a o q hg, hm.of (hm.ex p.h)⟩, k.ap⟩
theorem Ok.step (k : Ok B G σ H Γ) (p : Stp G H G' H') : Ok B G' σ H' Γ := let ⟨F, k⟩ := k; ⟨F, k.step p⟩
theorem Ok.st (k : Ok B G σ H Γ) : Stp B.g0 B.h0 G H := let ⟨_, k⟩ := k; k.st
theorem Ok.eb (k : Ok B G σ H Γ) : Ex B.gb G := let ⟨_, k⟩ := k; k.eb
theorem Ok.len (k : Ok B G σ H Γ) : σ.length = Γ.length := let ⟨_, k⟩ := k; k.len
theorem Ok.gh (k : Ok B G σ H Γ) : Ex G H := k.st.gh
theorem Ok.reb (k : Ok B G σ H Γ) {gb : Hp} (e : Ex gb G) : Ok ⟨gb, B.g0, B.h0⟩ G σ H Γ := by
  obtain ⟨F, k⟩ := k
  exact ⟨F, e, k.st, k.len, k.sl, k.fr, k.ap⟩
theorem Ok.dat (k : Ok B G σ H Γ) {i : Nat} {x : PyData} (e : Γ[i]? = some (.d x)) : ∃ v, σ[i]? = some (some v) ∧ Rp G v x := by
  obtain ⟨F, k⟩ := k
  exact k.sl i _ e
theorem Ok.exc (k : Ok B G σ H Γ) {i : Nat} {a : Addr} (e : Γ[i]? = some (.ex a)) : σ[i]? = some (some (.ref a)) := by
  obtain ⟨F, k⟩ := k
  exact k.sl i _ e
theorem Ok.own (k : Ok B G σ H Γ) {i : Nat} {ds : List PyData} (e : Γ[i]? = some (.own ds)) : ∃ a vs, σ[i]? = some (some (.ref a)) ∧ B.h0 a = none ∧ G a = none ∧ H a = some (.lst vs) ∧ Rps G vs ds := by
  obtain ⟨F, k⟩ := k
  obtain ⟨a, vs, e1, m, hh, r⟩ := k.sl i _ e
  obtain ⟨h0, hg, _⟩ := k.fr i a m
  exact ⟨a, vs, e1, h0, hg, hh, r⟩
theorem Ok.ownD (k : Ok B G σ H Γ) {i : Nat} {kvs : List (Str × Int)} (e : Γ[i]? = some (.ownD kvs)) : ∃ a, σ[i]? = some (some (.ref a)) ∧ B.h0 a = none ∧ G a = none ∧ H a = some (.dK (kvs.map kvI)) := by
  obtain ⟨F, k⟩ := k
  obtain ⟨a, e1, m, hh⟩ := k.sl i _ e
  obtain ⟨h0, hg, _⟩ := k.fr i a m
  exact ⟨a, e1, h0, hg, hh⟩
/-- a slot is stored: f, new ones of its own, or none -/
theorem OkF.setF (k : OkF B G σ H Γ F) (i : Nat) {v : Option V} {s : Sl} {f : List Addr} (hs : SlOk G H (some v) f s) (hf : ∀ a ∈ f, B.h0 a = none ∧ G a = none ∧ Mt H a) (hn : ∀ a ∈ f, ∀ j, j ≠ i → a ∉ F j) :
    OkF B G (σ.set i v) H (Γ.set i s) (fun j => if j = i then f else F j) := by
  refine ⟨k.eb, k.st, by rw [List.length_set, List.length_set]; exact k.len, fun j t e => ?_, fun j a m => ?_, fun j l a hne m1 m2 => ?_⟩
  · by_cases hj : i = j
    · subst hj
      by_cases hi : i < Γ.length
      · rw [List.getElem?_set_self hi] at e
        cases e
        rw [List.getElem?_set_self (by rw [k.len]; exact hi), if_pos rfl]
        exact hs
      · rw [List.getElem?_eq_none (by rw [List.length_set]; omega)] at e
        cases e
    · rw [List.getElem?_set_ne hj] at e ⊢
      rw [if_neg (Ne.symm hj)]
      exact k.sl j t e
  · by_cases hj : j = i
    · rw [if_pos hj] at m; exact hf a m
    · rw [if_neg hj] at m; exact k.fr j a m
  · by_cases hj : j = i
    · rw [if_pos hj] at m1
      rw [if_neg (fun z => hne (hj.trans z.symm))] at m2
      exact hn a m1 l (fun z => hne (hj.trans z.symm)) m2
    · rw [if_neg hj] at m1
      by_cases hl : l = i
      · rw [if_pos hl] at m2; exact hn a m2 j hj m1
      · rw [if_neg hl] at m2; exact k.ap j l a hne m1 m2
theorem Ok.setD (k : Ok B G σ H Γ) (i : Nat) {v : V} {x : PyData} (r : Rp G v x) : Ok B G (σ.set i (some v)) H (Γ.set i (.d x)) :=
  let ⟨_, k⟩ := k
  ⟨_, k.setF i (f := []) ⟨v, rfl, r⟩ (fun _ m => by cases m) (fun _ m => by cases m)⟩
theorem Ok.setU (k : Ok B G σ H Γ) (i : Nat) (v : Option V) : Ok B G (σ.set i v) H (Γ.set i .un) :=
  let ⟨_, k⟩ := k
  ⟨_, k.setF i (f := []) trivial (fun _ m => by cases m) (fun _ m => by cases m)⟩
theorem Ok.setE (k : Ok B G σ H Γ) (i : Nat) (a : Addr) : Ok B G (σ.set i (some (.ref a))) H (Γ.set i (.ex a)) :=
  let ⟨_, k⟩ := k
  ⟨_, k.setF i (f := []) rfl (fun _ m => by cases m) (fun _ m => by cases m)⟩
/-- .. new ones, made by a step -/
theorem Ok.setF (k : Ok B G σ H Γ) (p : Stp G H G' H') (i : Nat) {v : V} {s : Sl} {f : List Addr} (hs : SlOk G' H' (some (some v)) f s) (hf : ∀ a ∈ f, H a = none ∧ G' a = none ∧ Mt H' a) : Ok B G' (σ.set i (some v)) H' (Γ.set i s) := by
  obtain ⟨F, k⟩ := k
  refine ⟨_, (k.step p).setF i hs (fun a m => ⟨k.st.h.no (hf a m).1, (hf a m).2⟩) fun a m j _ mj => ?_⟩
  obtain ⟨o, q⟩ := (k.fr j a mj).2.2.some
  rw [(hf a m).1] at q
  cases q
/-- what is known less -/
theorem Ok.weak (k : Ok B G σ H Γ) {Γ' : List Sl} (hl : Γ'.length = Γ.length) (h : ∀ (i : Nat) (s : Sl), Γ'[i]? = some s → s = .un ∨ Γ[i]? = some s) : Ok B G σ H Γ' := by
  obtain ⟨F, k⟩ := k
  refine ⟨F, k.eb, k.st, k.len.trans hl.symm, fun i s e => ?_, k.fr, k.ap⟩
  rcases h i s e with q | q
  · rw [q]; trivial
  · exact k.sl i s q
/-- what is one's own at i is changed: f, what is one's own then -/
theorem OkF.mut (k : OkF B G σ H Γ F) {i : Nat} {H' : Hp} {s' : Sl} (hc : ∀ b, b ∉ F i → H' b = H b) (hg : ∀ b ∈ F i, Mt H' b) (hs : SlOk G H' σ[i]? (F i) s') : OkF B G σ H' (Γ.set i s') F := by
  have hne : ∀ {b : Addr}, B.h0 b ≠ none → b ∉ F i := fun hb m => hb (k.fr i _ m).1
  have hng : ∀ {b : Addr}, G b ≠ none → b ∉ F i := fun hb m => hb (k.fr i _ m).2.1
  refine ⟨k.eb, ⟨k.st.g, fun b u q => ?_, fun b u q => ?_, k.st.nw⟩, by rw [List.length_set]; exact k.len, fun j t et => ?_, fun j a m => ?_, k.ap⟩
  · rw [hc b (hne (by rw [q]; exact fun z => by cases z))]; exact k.st.h b u q
  · rw [hc b (hng (by rw [q]; exact fun z => by cases z))]; exact k.st.gh b u q
  · by_cases hj : i = j
    · subst hj
      have hi : i < Γ.length := by
        have := (List.getElem?_eq_some_iff.mp et).1
        rw [List.length_set] at this; exact this
      rw [List.getElem?_set_self hi] at et
      cases et
      exact hs
    · rw [List.getElem?_set_ne hj] at et
      exact (k.sl j t et).fr (Ex.rfl' G) fun a m => hc a fun z => k.ap i j a hj z m
  · by_cases hj : i = j
    · subst hj
      exact ⟨(k.fr i a m).1, (k.fr i a m).2.1, hg a m⟩
    · exact ⟨(k.fr j a m).1, (k.fr j a m).2.1, (k.fr j a m).2.2.of (hc a fun z => k.ap i j a hj z m)⟩
/-- an owned list is handed over for good -/
theorem Ok.freeze (k : Ok B G σ H Γ) {i : Nat} {ds : List PyData} (e : Γ[i]? = some (.own ds)) : ∃ G', Ex G G' ∧ Ok B G' σ H (Γ.set i (.d (.list ds))) := by
  obtain ⟨F, k⟩ := k
  obtain ⟨a, vs, e1, m, hh, r⟩ := k.sl i _ e
  obtain ⟨h0, hg, _⟩ := k.fr i a m
  have st := k.st.give h0 hg hh
  have eg : Ex G (upd G a (.lst vs)) := Ex.new hg
  refine ⟨upd G a (.lst vs), eg, fun j => if j = i then [] else F j, k.eb.tr eg, st, by rw [List.length_set]; exact k.len, fun j t et => ?_, fun j b mb => ?_, fun j l b hne m1 m2 => ?_⟩
  · by_cases hj : i = j
    · subst hj
      have hi : i < Γ.length := (List.getElem?_eq_some_iff.mp e).1
      rw [List.getElem?_set_self hi] at et
      cases et
      exact ⟨.ref a, e1, .lst (.inl upd_same) (r.up eg)⟩
    · rw [List.getElem?_set_ne hj] at et
      rw [if_neg (Ne.symm hj)]
      exact (k.sl j t et).fr eg fun _ _ => rfl
  · by_cases hj : j = i
    · rw [if_pos hj] at mb; cases mb
    · rw [if_neg hj] at mb
      obtain ⟨b0, bg, bm⟩ := k.fr j b mb
      exact ⟨b0, by rw [upd_ne (fun z => by subst z; exact k.ap i j _ (Ne.symm hj) m mb)]; exact bg, bm⟩
  · by_cases hj : j = i
    · rw [if_pos hj] at m1; cases m1
    · rw [if_neg hj] at m1
      by_cases hl : l = i
      · rw [if_pos hl] at m2; cases m2
      · rw [if_neg hl] at m2; exact k.ap j l b hne m1 m2
end
end Ck

namespace Ck
open PySem PySem.Spec L2

/-! ### what evaluates to what -/
def Ev (te : TE) (Γ : List Sl) (d : PyData) : Prop := ∀ (B : Bs) (G : Hp) (σ : L2.St) (H : Hp), Ok B G σ H Γ → ∀ Q : VK, (∀ v G' H', Stp G H G' H' → Rp G' v d → Q v H') → te σ H Q
/-- a new list, not handed over yet -/
def EvN (te : TE) (Γ : List Sl) (ds : List PyData) : Prop := ∀ (B : Bs) (G : Hp) (σ : L2.St) (H : Hp), Ok B G σ H Γ → ∀ Q : VK, (∀ a vs G' H', Stp G H G' H' → H a = none → G' a = none → H' a = some (.lst vs) → Rps G' vs ds → Q (.ref a) H') → te σ H Q
def EvA (ta : TA) (Γ : List Sl) (ds : List PyData) : Prop := ∀ (B : Bs) (G : Hp) (σ : L2.St) (H : Hp), Ok B G σ H Γ → ∀ Q : List V → Hp → Prop, (∀ vs G' H', Stp G H G' H' → Rps G' vs ds → Q vs H') → ta σ H Q
def EvT (tt : TT) (Γ : List Sl) (b : Bool) : Prop := ∀ (B : Bs) (G : Hp) (σ : L2.St) (H : Hp), Ok B G σ H Γ → ∀ Q : Bool → Hp → Prop, (∀ G' H', Stp G H G' H' → Q b H') → tt σ H Q
def EvO (to : TO) (Γ : List Sl) (o : Option Int) : Prop := ∀ (B : Bs) (G : Hp) (σ : L2.St) (H : Hp), Ok B G σ H Γ → ∀ Q : Option Int → Hp → Prop, (∀ G' H', Stp G H G' H' → Q o H') → to σ H Q
/-- operations by their data -/
def RvD (r : R2) (x y z : PyData) : Prop := ∀ (G H : Hp) (v u : V), Ex G H → Rp G v x → Rp G u y → ∀ Q : VK, (∀ w G' H', Stp G H G' H' → Rp G' w z → Q w H') → r v u H Q
def RvN (r : R2) (x y : PyData) (ds : List PyData) : Prop := ∀ (G H : Hp) (v u : V), Ex G H → Rp G v x → Rp G u y → ∀ Q : VK, (∀ a vs G' H', Stp G H G' H' → H a = none → G' a = none → H' a = some (.lst vs) → Rps G' vs ds → Q (.ref a) H') → r v u H Q
def RuD (r : V → Hp → VK → Prop) (x z : PyData) : Prop := ∀ (G H : Hp) (v : V), Ex G H → Rp G v x → ∀ Q : VK, (∀ w G' H', Stp G H G' H' → Rp G' w z → Q w H') → r v H Q
def RcD (r : List V → Hp → VK → Prop) (xs : List PyData) (z : PyData) : Prop := ∀ (G H : Hp) (vs : List V), Ex G H → Rps G vs xs → ∀ Q : VK, (∀ w G' H', Stp G H G' H' → Rp G' w z → Q w H') → r vs H Q
def RcN (r : List V → Hp → VK → Prop) (xs : List PyData) (ds : List PyData) : Prop := ∀ (G H : Hp) (vs : List V), Ex G H → Rps G vs xs → ∀ Q : VK, (∀ a vs G' H', Stp G H G' H' → H a = none → G' a = none → H' a = some (.lst vs) → Rps G' vs ds → Q (.ref a) H') → r vs H Q
def RmD (T : String) (r : V → List V → Hp → VK → Prop) (x : PyData) (xs : List PyData) (z : PyData) : Prop := ∀ (K : PySem.W.Frag) (G H : Hp) (v : V) (vs : List V), Ex G H → Rp G v x → (∀ H1 : Hp, Ex G H1 → tyV K T v H1) ∧ (Rps G vs xs → ∀ Q : VK, (∀ w G' H', Stp G H G' H' → Rp G' w z → Q w H') → r v vs H Q)
def RsD (r : V → Option Int → Option Int → Hp → VK → Prop) (x : PyData) (lo hi : Option Int) (z : PyData) : Prop := ∀ (G H : Hp) (v : V), Ex G H → Rp G v x → ∀ Q : VK, (∀ w G' H', Stp G H G' H' → Rp G' w z → Q w H') → r v lo hi H Q
def RsN (r : V → Option Int → Option Int → Hp → VK → Prop) (x : PyData) (lo hi : Option Int) (ds : List PyData) : Prop := ∀ (G H : Hp) (v : V), Ex G H → Rp G v x → ∀ Q : VK, (∀ a vs G' H', Stp G H G' H' → H a = none → G' a = none → H' a = some (.lst vs) → Rps G' vs ds → Q (.ref a) H') → r v lo hi H Q

section
variable {K : PySem.W.Frag} {Γ : List Sl} {ta tb te : TE} {t u : TT} {d x y z : PyData} {ds xs ys : List PyData} {b c : Bool} {i : Nat} {r : R2}
theorem EvN.ev (h : EvN te Γ ds) : Ev te Γ (.list ds) := fun B G σ H ok Q q => h B G σ H ok Q fun a vs G' H' s h0 hg hh rr =>
  q (.ref a) _ H' (s.give h0 hg hh) (.lst (.inl upd_same) (rr.up (Ex.new hg)))
theorem ev_var (h : Γ[i]? = some (.d d)) : Ev (tVar i) Γ d := fun B G σ H ok Q q => by
  obtain ⟨v, e, r⟩ := ok.dat h
  exact ⟨v, e, q v G H (Stp.rfl' ok.gh) r⟩
theorem ev_int {n : Int} : Ev (tC (.int n)) Γ (.int n) := fun B G σ H ok Q q => q _ G H (Stp.rfl' ok.gh) (.int n)
theorem ev_str {n : Str} : Ev (tC (.str n)) Γ (.str n) := fun B G σ H ok Q q => q _ G H (Stp.rfl' ok.gh) (.str n)
theorem ev_bl {n : Bool} : Ev (tC (.bl n)) Γ (.bool n) := fun B G σ H ok Q q => q _ G H (Stp.rfl' ok.gh) (.bl n)
theorem ev_non : Ev (tC .non) Γ .none := fun B G σ H ok Q q => q _ G H (Stp.rfl' ok.gh) .non
theorem ev_is {d' : PyData} (h : Ev te Γ d) (e : d = d') : Ev te Γ d' := e ▸ h
theorem ev_op (ha : Ev ta Γ x) (hb : Ev tb Γ y) (hr : RvD r x y z) : Ev (tOp r ta tb) Γ z := fun B G σ H ok Q q =>
  ha B G σ H ok _ fun v G1 H1 s1 r1 => hb B G1 σ H1 (ok.step s1) _ fun u G2 H2 s2 r2 => hr G2 H2 v u s2.gh (r1.up s2.g) r2 Q fun w G3 H3 s3 r3 => q w G3 H3 ((s1.tr s2).tr s3) r3
theorem evN_op (ha : Ev ta Γ x) (hb : Ev tb Γ y) (hr : RvN r x y ds) : EvN (tOp r ta tb) Γ ds := fun B G σ H ok Q q =>
  ha B G σ H ok _ fun v G1 H1 s1 r1 => hb B G1 σ H1 (ok.step s1) _ fun u G2 H2 s2 r2 => hr G2 H2 v u s2.gh (r1.up s2.g) r2 Q fun a vs G3 H3 s3 h0 hg hh r3 =>
    q a vs G3 H3 ((s1.tr s2).tr s3) ((s1.h.tr s2.h).no h0) hg hh r3
theorem ev_un {r : V → Hp → VK → Prop} (ha : Ev ta Γ x) (hr : RuD r x z) : Ev (tUn r ta) Γ z := fun B G σ H ok Q q =>
  ha B G σ H ok _ fun v G1 H1 s1 r1 => hr G1 H1 v s1.gh r1 Q fun w G3 H3 s3 r3 => q w G3 H3 (s1.tr s3) r3
theorem ea_nil : EvA tNil Γ [] := fun B G σ H ok Q q => q [] G H (Stp.rfl' ok.gh) .nil
theorem ea_cons {tr : TA} (ha : Ev ta Γ x) (hr : EvA tr Γ xs) : EvA (tCons ta tr) Γ (x :: xs) := fun B G σ H ok Q q =>
  ha B G σ H ok _ fun v G1 H1 s1 r1 => hr B G1 σ H1 (ok.step s1) _ fun vs G2 H2 s2 r2 => q (v :: vs) G2 H2 (s1.tr s2) (.cons (r1.up s2.g) r2)
theorem ev_tup {t : TA} (h : EvA t Γ xs) (hl : xs.length ≤ sizeLine) : Ev (tTup t) Γ (.tuple xs) := fun B G σ H ok Q q =>
  h B G σ H ok _ fun vs G1 H1 s1 r1 => ⟨by rw [r1.length]; exact hl, fun p hp => q (.ref p) _ _ (s1.tr (Stp.new s1.gh hp)) (.tup (.inl upd_same) (r1.up (Ex.new (s1.gh.no hp))))⟩
theorem evN_lst {t : TA} (h : EvA t Γ xs) (hl : xs.length ≤ sizeLine) : EvN (tLst t) Γ xs := fun B G σ H ok Q q =>
  h B G σ H ok _ fun vs G1 H1 s1 r1 => ⟨by rw [r1.length]; exact hl, fun p hp => q p vs G1 _ (s1.tr (Stp.newH s1.gh hp)) (s1.h.no hp) (s1.gh.no hp) upd_same r1⟩
theorem ev_cb {t : TA} {r : List V → Hp → VK → Prop} (h : EvA t Γ xs) (hr : RcD r xs z) : Ev (tCB r t) Γ z := fun B G σ H ok Q q =>
  h B G σ H ok _ fun vs G1 H1 s1 r1 => hr G1 H1 vs s1.gh r1 Q fun w G3 H3 s3 r3 => q w G3 H3 (s1.tr s3) r3
theorem evN_cb {t : TA} {r : List V → Hp → VK → Prop} (h : EvA t Γ xs) (hr : RcN r xs ds) : EvN (tCB r t) Γ ds := fun B G σ H ok Q q =>
  h B G σ H ok _ fun vs G1 H1 s1 r1 => hr G1 H1 vs s1.gh r1 Q fun a ws G3 H3 s3 h0 hg hh r3 => q a ws G3 H3 (s1.tr s3) (s1.h.no h0) hg hh r3
theorem ev_bm {t : TA} {T : String} {r : V → List V → Hp → VK → Prop} (ho : Ev te Γ x) (h : EvA t Γ xs) (hr : RmD T r x xs z) : Ev (tBM K T r te t) Γ z := fun B G σ H ok Q q =>
  ho B G σ H ok _ fun v G1 H1 s1 r1 => ⟨(hr K G1 H1 v [] s1.gh r1).1 H1 s1.gh, h B G1 σ H1 (ok.step s1) _ fun vs G2 H2 s2 r2 => (hr K G2 H2 v vs s2.gh (r1.up s2.g)).2 r2 Q fun w G3 H3 s3 r3 => q w G3 H3 ((s1.tr s2).tr s3) r3⟩
/-! slices -/
theorem eo_none : EvO tNoPart Γ none := fun B G σ H ok Q q => q G H (Stp.rfl' ok.gh)
theorem eo_some {n : Int} (h : Ev te Γ (.int n)) : EvO (tPart te) Γ (some n) := fun B G σ H ok Q q => h B G σ H ok _ fun v G1 H1 s1 r1 => by
  cases r1; exact ⟨n, rfl, q G1 H1 s1⟩
theorem ev_sl {r : V → Option Int → Option Int → Hp → VK → Prop} {tl th : TO} {lo hi : Option Int} (ha : Ev te Γ x) (h1 : EvO tl Γ lo) (h2 : EvO th Γ hi) (hr : RsD r x lo hi z) : Ev (tSl r te tl th) Γ z := fun B G σ H ok Q q =>
  ha B G σ H ok _ fun v G1 H1 s1 r1 => h1 B G1 σ H1 (ok.step s1) _ fun G2 H2 s2 => h2 B G2 σ H2 (ok.step (s1.tr s2)) _ fun G3 H3 s3 => hr G3 H3 v s3.gh (r1.up (s2.g.tr s3.g)) Q fun w G4 H4 s4 r4 => q w G4 H4 (((s1.tr s2).tr s3).tr s4) r4
theorem evN_sl {r : V → Option Int → Option Int → Hp → VK → Prop} {tl th : TO} {lo hi : Option Int} (ha : Ev te Γ x) (h1 : EvO tl Γ lo) (h2 : EvO th Γ hi) (hr : RsN r x lo hi ds) : EvN (tSl r te tl th) Γ ds := fun B G σ H ok Q q =>
  ha B G σ H ok _ fun v G1 H1 s1 r1 => h1 B G1 σ H1 (ok.step s1) _ fun G2 H2 s2 => h2 B G2 σ H2 (ok.step (s1.tr s2)) _ fun G3 H3 s3 => hr G3 H3 v s3.gh (r1.up (s2.g.tr s3.g)) Q fun a vs G4 H4 s4 h0 hg hh r4 =>
    q a vs G4 H4 (((s1.tr s2).tr s3).tr s4) (((s1.h.tr s2.h).tr s3.h).no h0) hg hh r4
/-! tests -/
theorem et_test (h : Ev te Γ (.bool b)) : EvT (tTest te) Γ b := fun B G σ H ok Q q => h B G σ H ok _ fun v G1 H1 s1 r1 => by cases r1; exact ⟨b, rfl, q G1 H1 s1⟩
theorem et_B (h : Ev te Γ (.bool b)) : EvT (tB te) Γ b := fun B G σ H ok Q q => h B G σ H ok _ fun v G1 H1 s1 r1 => by cases r1; exact ⟨b, rfl, q G1 H1 s1⟩
theorem et_is (h : EvT t Γ b) (e : b = c) : EvT t Γ c := e ▸ h
theorem et_yes : EvT tYes Γ true := fun B G σ H ok Q q => q G H (Stp.rfl' ok.gh)
theorem et_and (h1 : EvT t Γ b) (h2 : b = true → EvT u Γ c) : EvT (tAnd t u) Γ (b && c) := fun B G σ H ok Q q => h1 B G σ H ok _ fun G1 H1 s1 => by
  cases b with
  | true => exact h2 rfl B G1 σ H1 (ok.step s1) Q fun G2 H2 s2 => q G2 H2 (s1.tr s2)
  | false => exact q G1 H1 s1
theorem et_or (h1 : EvT t Γ b) (h2 : b = false → EvT u Γ c) : EvT (tOr t u) Γ (b || c) := fun B G σ H ok Q q => h1 B G σ H ok _ fun G1 H1 s1 => by
  cases b with
  | true => exact q G1 H1 s1
  | false => exact h2 rfl B G1 σ H1 (ok.step s1) Q fun G2 H2 s2 => q G2 H2 (s1.tr s2)
theorem et_not (h1 : EvT t Γ b) : EvT (tNot t) Γ (!b) := fun B G σ H ok Q q => h1 B G σ H ok _ q
theorem ev_andV (h1 : Ev ta Γ (.bool b)) (h2 : b = true → Ev tb Γ (.bool c)) : Ev (tAndV ta tb) Γ (.bool (b && c)) := fun B G σ H ok Q q => h1 B G σ H ok _ fun v G1 H1 s1 r1 => by
  cases r1
  refine ⟨b, rfl, ?_⟩
  cases b with
  | true => exact h2 rfl B G1 σ H1 (ok.step s1) Q fun w G2 H2 s2 r2 => q w G2 H2 (s1.tr s2) r2
  | false => exact q _ G1 H1 s1 (.bl false)
theorem ev_orV (h1 : Ev ta Γ (.bool b)) (h2 : b = false → Ev tb Γ (.bool c)) : Ev (tOrV ta tb) Γ (.bool (b || c)) := fun B G σ H ok Q q => h1 B G σ H ok _ fun v G1 H1 s1 r1 => by
  cases r1
  refine ⟨b, rfl, ?_⟩
  cases b with
  | true => exact q _ G1 H1 s1 (.bl true)
  | false => exact h2 rfl B G1 σ H1 (ok.step s1) Q fun w G2 H2 s2 r2 => q w G2 H2 (s1.tr s2) r2
theorem ev_notV (h1 : Ev ta Γ (.bool b)) : Ev (tNotV ta) Γ (.bool (!b)) := fun B G σ H ok Q q => h1 B G σ H ok _ fun v G1 H1 s1 r1 => by
  cases r1
  exact ⟨b, rfl, q _ G1 H1 s1 (.bl _)⟩
end

/-! ### what is one's own, read -/
def Sl.fz : Sl → Sl
  | .own ds => .d (.list ds)
  | .ownD kvs => .d (.dict (kvs.map kvD))
  | .ow x => .d x
  | .oa _ ds => .d (.list ds)
  | .ov _ x => .d x
  | s => s
section
open Classical
/-- G with what is one's own; without -/
noncomputable def gPlus (F : Nat → List Addr) (G H : Hp) : Hp := fun a => if ∃ i, a ∈ F i then H a else G a
noncomputable def gMinus (F : Nat → List Addr) (G : Hp) : Hp := fun a => if ∃ i, a ∈ F i then none else G a
variable {B : Bs} {G H G' H' : Hp} {σ : L2.St} {Γ : List Sl} {F : Nat → List Addr}
theorem gPlus_in {i : Nat} {a : Addr} (m : a ∈ F i) : gPlus F G H a = H a := if_pos ⟨i, m⟩
theorem OkF.gPlus_ex (k : OkF B G σ H Γ F) : Ex G (gPlus F G H) := fun a o q => by
  unfold gPlus
  by_cases h : ∃ i, a ∈ F i
  · obtain ⟨i, m⟩ := h
    rw [(k.fr i a m).2.1] at q; cases q
  · rw [if_neg h]; exact q
theorem OkF.gPlus_h (k : OkF B G σ H Γ F) : Ex (gPlus F G H) H := fun a o q => by
  unfold gPlus at q
  by_cases h : ∃ i, a ∈ F i
  · rw [if_pos h] at q; exact q
  · rw [if_neg h] at q; exact k.st.gh a o q
theorem OkF.fz (k : OkF B G σ H Γ F) : Ok ⟨gPlus F G H, gPlus F G H, H⟩ (gPlus F G H) σ H (Γ.map Sl.fz) := by
  have ep := k.gPlus_ex
  refine ⟨fun _ => [], Ex.rfl' _, Stp.rfl' k.gPlus_h, by rw [List.length_map]; exact k.len, fun i s e => ?_, fun i a m => (by cases m), fun i j a _ m => (by cases m)⟩
  rw [List.getElem?_map] at e
  cases q : Γ[i]? with
  | none => rw [q] at e; cases e
  | some s' =>
    rw [q] at e
    have e' : s'.fz = s := Option.some.inj e
    subst e'
    have h := k.sl i _ q
    cases s' with
    | un => trivial
    | d x => obtain ⟨v, e, r⟩ := h; exact ⟨v, e, r.up ep⟩
    | ex a => exact h
    | own ds => obtain ⟨a, vs, e, m, hh, r⟩ := h; exact ⟨_, e, .lst (.inl ((gPlus_in m).trans hh)) (r.up ep)⟩
    | ownD kvs => obtain ⟨a, e, m, hh⟩ := h; exact ⟨_, e, .dct ((gPlus_in m).trans hh) rfl⟩
    | ow x => obtain ⟨v, g, e, r, nd, m⟩ := h; exact ⟨_, e, r.rp (exTup ep) _ _ _ fun a ha => gPlus_in (m a ha)⟩
    | dl kvs => obtain ⟨a, e, r⟩ := h; exact ⟨a, e, ep.rd r⟩
    | sn x => obtain ⟨p, a, vx, e, r, rx⟩ := h; exact ⟨p, a, vx, e, ep.rd r, rx.up ep⟩
    | gx φ => exact fun G2 e2 => h G2 (ep.tr e2)
    | oa a ds => obtain ⟨vs, e, m, hh, r⟩ := h; exact ⟨_, e, .lst (.inl ((gPlus_in m).trans hh)) (r.up ep)⟩
    | ov v x => obtain ⟨g, e, r, nd, m⟩ := h; exact ⟨_, e, r.rp (exTup ep) _ _ _ fun a ha => gPlus_in (m a ha)⟩
theorem OkF.unfz (k : OkF B G σ H Γ F) (s : Stp (gPlus F G H) H G' H') : Stp G H (gMinus F G') H' := by
  refine ⟨fun a o q => ?_, s.h, fun a o q => ?_, fun a o q q' => ?_⟩
  · unfold gMinus
    by_cases h : ∃ i, a ∈ F i
    · obtain ⟨i, m⟩ := h
      rw [(k.fr i a m).2.1] at q; cases q
    · rw [if_neg h]
      exact s.g a o (k.gPlus_ex a o q)
  · unfold gMinus at q
    by_cases h : ∃ i, a ∈ F i
    · rw [if_pos h] at q; cases q
    · rw [if_neg h] at q; exact s.gh a o q
  · unfold gMinus
    by_cases h : ∃ i, a ∈ F i
    · exact if_pos h
    · rw [if_neg h]
      refine s.nw a o q ?_
      unfold gPlus
      rw [if_neg h]; exact q'
theorem OkF.tup (k : OkF B G σ H Γ F) (s : Stp (gPlus F G H) H G' H') : ∀ a xs, Rd G' a (.tup xs) → Rd (gMinus F G') a (.tup xs) := fun a xs r => by
  have no : ¬ ∃ i, a ∈ F i := fun ⟨i, m⟩ => by
    have hm := (k.fr i a m).2.2
    obtain ⟨o, ho⟩ := hm.some
    have h1 : G' a = some o := s.g a o ((gPlus_in m).trans ho)
    rcases r with r | ⟨o2, r⟩ <;> rw [h1] at r <;> cases r <;> rcases hm with ⟨_, hm⟩ | ⟨_, hm⟩ <;> rw [ho] at hm <;> cases hm
  have e : gMinus F G' a = G' a := if_neg no
  unfold Rd
  rw [e]; exact r
theorem gMinus_none {a : Addr} (h : G' a = none) : gMinus F G' a = none := by
  unfold gMinus
  by_cases q : ∃ i, a ∈ F i
  · exact if_pos q
  · rw [if_neg q]; exact h
end
/-- a scalar -/
def Sc : PyData → Bool
  | .none => true
  | .bool _ => true
  | .int _ => true
  | .str _ => true
  | _ => false
theorem Rp.sc {G G' : Hp} {v : V} {d : PyData} (h : Rp G v d) (s : Sc d = true) : Rp G' v d := by
  cases h with
  | non => exact .non
  | bl b => exact .bl b
  | int i => exact .int i
  | str x => exact .str x
  | lst _ _ => cases s
  | tup _ _ => cases s
  | dct _ _ => cases s
theorem noL_sc {d : PyData} (s : Sc d = true) : noL d = true := by
  cases d <;> first | rfl | cases s
theorem ev_fzL {te : TE} {Γ : List Sl} {d : PyData} (h : Ev te (Γ.map Sl.fz) d) (s : noL d = true) : Ev te Γ d := fun B G σ H ok Q q => by
  obtain ⟨F, k⟩ := ok
  exact h _ _ σ H k.fz Q fun v G' H' st r => q v _ H' (k.unfz st) (r.noL s (k.tup st))
theorem ev_fz {te : TE} {Γ : List Sl} {d : PyData} (h : Ev te (Γ.map Sl.fz) d) (s : Sc d = true) : Ev te Γ d := ev_fzL h (noL_sc s)
theorem evN_fz {te : TE} {Γ : List Sl} {ds : List PyData} (h : EvN te (Γ.map Sl.fz) ds) (s : noLs ds = true) : EvN te Γ ds := fun B G σ H ok Q q => by
  obtain ⟨F, k⟩ := ok
  exact h _ _ σ H k.fz Q fun a vs G' H' st h0 hg hh r => q a vs _ H' (k.unfz st) h0 (gMinus_none hg) hh (r.noL s (k.tup st))
theorem et_fz {tt : TT} {Γ : List Sl} {b : Bool} (h : EvT tt (Γ.map Sl.fz) b) : EvT tt Γ b := fun B G σ H ok Q q => by
  obtain ⟨F, k⟩ := ok
  exact h _ _ σ H k.fz Q fun G' H' st => q _ H' (k.unfz st)

/-! ### what one may make one's own: new, or moved out of the slots S -/
def EvM (te : TE) (Γ : List Sl) (S : List Nat) (d : PyData) : Prop := ∀ (B : Bs) (G : Hp) (σ : L2.St) (H : Hp) (F : Nat → List Addr), OkF B G σ H Γ F → ∀ Q : VK,
  (∀ v f G' H', Stp G H G' H' → Ro G' H' v d f → f.Nodup → (∀ a ∈ f, G' a = none ∧ (H a = none ∨ ∃ i ∈ S, a ∈ F i)) → Q v H') → te σ H Q
def EvMs (ta : TA) (Γ : List Sl) (S : List Nat) (ds : List PyData) : Prop := ∀ (B : Bs) (G : Hp) (σ : L2.St) (H : Hp) (F : Nat → List Addr), OkF B G σ H Γ F → ∀ Q : List V → Hp → Prop,
  (∀ vs f G' H', Stp G H G' H' → Ros G' H' vs ds f → f.Nodup → (∀ a ∈ f, G' a = none ∧ (H a = none ∨ ∃ i ∈ S, a ∈ F i)) → Q vs H') → ta σ H Q
section
variable {Γ : List Sl} {ta te : TE} {tr : TA} {d : PyData} {ds : List PyData} {S S1 S2 : List Nat} {i : Nat}
theorem em_d (h : Ev te Γ d) (s : noL d = true) : EvM te Γ [] d := fun B G σ H F k Q q => h B G σ H ⟨F, k⟩ Q fun v G' H' st r => q v [] G' H' st (r.ro _ _ s) List.nodup_nil fun _ m => by cases m
theorem em_N (h : EvN te Γ ds) (s : noLs ds = true) : EvM te Γ [] (.list ds) := fun B G σ H F k Q q => h B G σ H ⟨F, k⟩ Q fun a vs G' H' st h0 hg hh r =>
  q _ [a] G' H' st (.lst hh (r.ros _ _ s)) (List.nodup_cons.mpr ⟨fun m => (by cases m), List.nodup_nil⟩) fun b m => by
    rcases List.mem_cons.mp m with rfl | m
    · exact ⟨hg, .inl h0⟩
    · cases m
theorem em_var (e : Γ[i]? = some (.ow d)) : EvM (tVar i) Γ [i] d := fun B G σ H F k Q q => by
  obtain ⟨v, g, e1, r, nd, m⟩ := k.sl i _ e
  exact ⟨v, e1, q v g G H (Stp.rfl' k.st.gh) r nd fun a ha => ⟨(k.fr i a (m a ha)).2.1, .inr ⟨i, List.mem_cons_self, m a ha⟩⟩⟩
theorem em_own (e : Γ[i]? = some (.own ds)) (s : noLs ds = true) : EvM (tVar i) Γ [i] (.list ds) := fun B G σ H F k Q q => by
  obtain ⟨a, vs, e1, m, hh, r⟩ := k.sl i _ e
  refine ⟨.ref a, e1, q _ [a] G H (Stp.rfl' k.st.gh) (.lst hh (r.ros _ _ s)) (List.nodup_cons.mpr ⟨fun m => (by cases m), List.nodup_nil⟩) fun b mb => ?_⟩
  rcases List.mem_cons.mp mb with rfl | mb
  · exact ⟨(k.fr i _ m).2.1, .inr ⟨i, List.mem_cons_self, m⟩⟩
  · cases mb
theorem em_ownD {kvs : List (Str × Int)} (e : Γ[i]? = some (.ownD kvs)) : EvM (tVar i) Γ [i] (.dict (kvs.map kvD)) := fun B G σ H F k Q q => by
  obtain ⟨a, e1, m, hh⟩ := k.sl i _ e
  refine ⟨.ref a, e1, q _ [a] G H (Stp.rfl' k.st.gh) (.dct hh rfl) (List.nodup_cons.mpr ⟨fun m => (by cases m), List.nodup_nil⟩) fun b mb => ?_⟩
  rcases List.mem_cons.mp mb with rfl | mb
  · exact ⟨(k.fr i _ m).2.1, .inr ⟨i, List.mem_cons_self, m⟩⟩
  · cases mb
theorem ems_nil : EvMs tNil Γ [] [] := fun B G σ H F k Q q => q [] [] G H (Stp.rfl' k.st.gh) .nil List.nodup_nil fun _ m => by cases m
theorem ems_cons (h : EvM ta Γ S1 d) (hr : EvMs tr Γ S2 ds) (hd : ∀ i ∈ S1, i ∉ S2) : EvMs (tCons ta tr) Γ (S1 ++ S2) (d :: ds) := fun B G σ H F k Q q =>
  h B G σ H F k _ fun v f G1 H1 s1 r1 n1 m1 => hr B G1 σ H1 F (k.step s1) _ fun vs g G2 H2 s2 r2 n2 m2 => by
    have mt1 := r1.mt _ _ _
    have key : ∀ a ∈ f, H2 a = H1 a := fun a ha => (mt1 a ha).ex s2.h
    refine q (v :: vs) (f ++ g) G2 H2 (s1.tr s2) (.cons (r1.fr (exTup s2.g) _ _ _ key) r2) ?_ fun a ha => ?_
    · refine List.nodup_append.mpr ⟨n1, n2, fun a ha b hb e => ?_⟩
      subst e
      rcases (m2 a hb).2 with z | ⟨j, hj, mj⟩
      · obtain ⟨o, ho⟩ := (mt1 a ha).some
        rw [z] at ho; cases ho
      · rcases (m1 a ha).2 with z | ⟨l, hl, ml⟩
        · obtain ⟨o, ho⟩ := (k.fr j a mj).2.2.some
          rw [z] at ho; cases ho
        · by_cases e : l = j
          · subst e; exact hd l hl hj
          · exact k.ap l j a e ml mj
    · rcases List.mem_append.mp ha with ha | ha
      · obtain ⟨o, ho⟩ := (mt1 a ha).some
        refine ⟨s2.nw a o ho (m1 a ha).1, ?_⟩
        rcases (m1 a ha).2 with z | ⟨l, hl, ml⟩
        · exact .inl z
        · exact .inr ⟨l, List.mem_append_left _ hl, ml⟩
      · refine ⟨(m2 a ha).1, ?_⟩
        rcases (m2 a ha).2 with z | ⟨l, hl, ml⟩
        · exact .inl (s1.h.no z)
        · exact .inr ⟨l, List.mem_append_right _ hl, ml⟩
theorem em_tup {t : TA} (h : EvMs t Γ S ds) (hl : ds.length ≤ sizeLine) : EvM (tTup t) Γ S (.tuple ds) := fun B G σ H F k Q q =>
  h B G σ H F k _ fun vs f G1 H1 s1 r1 n1 m1 => ⟨by rw [(r1.len _ _ _)]; exact hl, fun p hp => by
    have mt1 := r1.mt _ _ _
    have np : ∀ a ∈ f, a ≠ p := fun a ha z => by
      subst z
      obtain ⟨o, ho⟩ := (mt1 a ha).some
      rw [hp] at ho; cases ho
    exact q (.ref p) f _ _ (s1.tr (Stp.new s1.gh hp)) (.tup (.inl upd_same) (r1.fr (exTup (Ex.new (s1.gh.no hp))) _ _ _ fun a ha => upd_ne (np a ha))) n1 fun a ha => ⟨by rw [upd_ne (np a ha)]; exact (m1 a ha).1, (m1 a ha).2⟩⟩
theorem em_lst {t : TA} (h : EvMs t Γ S ds) (hl : ds.length ≤ sizeLine) : EvM (tLst t) Γ S (.list ds) := fun B G σ H F k Q q =>
  h B G σ H F k _ fun vs f G1 H1 s1 r1 n1 m1 => ⟨by rw [(r1.len _ _ _)]; exact hl, fun p hp => by
    have mt1 := r1.mt _ _ _
    have np : ∀ a ∈ f, a ≠ p := fun a ha z => by
      subst z
      obtain ⟨o, ho⟩ := (mt1 a ha).some
      rw [hp] at ho; cases ho
    refine q (.ref p) (p :: f) G1 _ (s1.tr (Stp.newH s1.gh hp)) (.lst upd_same (r1.fr (fun _ _ z => z) _ _ _ fun a ha => upd_ne (np a ha))) (List.nodup_cons.mpr ⟨fun m => np p m rfl, n1⟩) fun a ha => ?_
    rcases List.mem_cons.mp ha with rfl | ha
    · exact ⟨s1.gh.no hp, .inl (s1.h.no hp)⟩
    · exact m1 a ha⟩
/-- what is new is given away: mere data -/
theorem EvM.ev (h : EvM te Γ [] d) : Ev te Γ d := fun B G σ H ok Q q => by
  obtain ⟨F, k⟩ := ok
  refine h B G σ H F k Q fun v f G1 H1 s1 r1 n1 m1 => ?_
  have new : ∀ a ∈ f, H a = none ∧ G1 a = none := fun a ha => by
    rcases (m1 a ha).2 with z | ⟨l, hl, _⟩
    · exact ⟨z, (m1 a ha).1⟩
    · cases hl
  have st := s1.giveL f (fun a ha => new a ha)
  exact q v _ H1 st.1 (r1.rp st.2.1 _ _ _ st.2.2)
theorem em_fz (h : EvM te (Γ.map Sl.fz) [] d) : EvM te Γ [] d := fun B G σ H F k Q q => by
  obtain ⟨F2, k2⟩ := k.fz
  refine h _ _ σ H F2 k2 Q fun v f G1 H1 s1 r1 n1 m1 => q v f _ H1 (k.unfz s1) (r1.fr (k.tup s1) _ _ _ fun _ _ => rfl) n1 fun a ha => ?_
  rcases (m1 a ha).2 with z | ⟨l, hl, _⟩
  · exact ⟨gMinus_none (m1 a ha).1, .inl z⟩
  · cases hl
end

/-! ### what is walked -/
structure ItD (J : It) (G : Hp) (ds : List PyData) : Prop where
  stop : ∀ H, Ex G H → J.stop ds.length H
  go : ∀ i H, i < ds.length → Ex G H → J.go i H
  yld : ∀ (i : Nat) (H : Hp) (x : V) (H' : Hp) (d : PyData), ds[i]? = some d → Ex G H → J.yld i H x H' → H' = H ∧ Rp G x d
def EvI (wi : TI) (Γ : List Sl) (ds : List PyData) : Prop := ∀ (B : Bs) (G : Hp) (σ : L2.St) (H : Hp), Ok B G σ H Γ → ∀ R : It → Hp → Prop, (∀ J G' H', Stp G H G' H' → ItD J G' ds → R J H') → wi σ H R
section
variable {K : PySem.W.Frag} {Γ : List Sl} {ta tb te : TE} {d x y z : PyData} {ds xs ys : List PyData}
theorem ei_list (h : Ev te Γ (.list ds)) : EvI (iList K te) Γ ds := fun B G σ H ok R q => h B G σ H ok _ fun v G1 H1 s1 r1 => by
  cases r1 with
  | @lst a vs _ hd hr =>
    refine ⟨a, rfl, ⟨vs, rd_sql (s1.gh.rd hd)⟩, q _ G1 H1 s1 ⟨fun H e => ⟨vs, rd_sql (e.rd hd), by rw [hr.length]; exact Nat.le_refl _⟩, fun i H hi e => ?_, fun i H x H' d hd' e y => ?_⟩⟩
    · have hi' : i < vs.length := by rw [hr.length]; exact hi
      exact ⟨vs, vs[i], rd_sql (e.rd hd), List.getElem?_eq_getElem hi'⟩
    · obtain ⟨e1, y⟩ := y
      obtain ⟨v, h1, h2⟩ := hr.get hd'
      have h3 := y vs (rd_sql (e.rd hd))
      rw [h1] at h3
      cases h3
      exact ⟨e1, h2⟩
theorem ei_tup (h : Ev te Γ (.tuple ds)) : EvI (iTup K te) Γ ds := fun B G σ H ok R q => h B G σ H ok _ fun v G1 H1 s1 r1 => by
  cases r1 with
  | @tup a vs _ hd hr =>
    refine ⟨a, rfl, ⟨vs, rd_sqt (s1.gh.rd hd)⟩, q _ G1 H1 s1 ⟨fun H e => ⟨vs, rd_sqt (e.rd hd), by rw [hr.length]; exact Nat.le_refl _⟩, fun i H hi e => ?_, fun i H x H' d hd' e y => ?_⟩⟩
    · have hi' : i < vs.length := by rw [hr.length]; exact hi
      exact ⟨vs, vs[i], rd_sqt (e.rd hd), List.getElem?_eq_getElem hi'⟩
    · obtain ⟨e1, y⟩ := y
      obtain ⟨v, h1, h2⟩ := hr.get hd'
      have h3 := y vs (rd_sqt (e.rd hd))
      rw [h1] at h3
      cases h3
      exact ⟨e1, h2⟩
/-- lo, lo + 1, .. -/
def rngD (lo : Int) (n : Nat) : List PyData := (List.range n).map fun k : Nat => PyData.int (lo + k)
theorem rngD_length (lo : Int) (n : Nat) : (rngD lo n).length = n := by simp [rngD]
theorem rngD_get (lo : Int) (n i : Nat) (h : i < n) : (rngD lo n)[i]? = some (.int (lo + i)) := by
  unfold rngD
  rw [List.getElem?_map, List.getElem?_range h]
  rfl
theorem itd_rng {G : Hp} {lo : Int} {n : Nat} : ItD (Itr lo n) G (rngD lo n) := by
  refine ⟨fun H _ => ?_, fun i H hi _ => ?_, fun i H x H' d hd _ y => ?_⟩
  · show n ≤ _
    rw [rngD_length]; exact Nat.le_refl _
  · show i < n
    rw [rngD_length] at hi; exact hi
  · obtain ⟨e1, e2⟩ := y
    have hi : i < n := by
      have := (List.getElem?_eq_some_iff.mp hd).1
      rw [rngD_length] at this; exact this
    rw [rngD_get lo n i hi] at hd
    cases hd
    subst e2
    exact ⟨e1, .int _⟩
theorem ei_rng1 {n : Int} (h : Ev ta Γ (.int n)) (h1 : -(2 ^ 62) ≤ n) (h2 : n < 2 ^ 62) : EvI (iRng1 (tCons ta tNil)) Γ (rngD 0 n.toNat) := fun B G σ H ok R q => h B G σ H ok _ fun v G1 H1 s1 r1 => by
  cases r1
  exact ⟨n, rfl, h1, h2, q _ G1 H1 s1 itd_rng⟩
theorem ei_rng2 {m n : Int} (ha : Ev ta Γ (.int m)) (hb : Ev tb Γ (.int n)) (h1 : -(2 ^ 62) ≤ m) (h2 : m < 2 ^ 62) (h3 : -(2 ^ 62) ≤ n) (h4 : n < 2 ^ 62) : EvI (iRng2 (tCons ta (tCons tb tNil))) Γ (rngD m (n - m).toNat) := fun B G σ H ok R q =>
  ha B G σ H ok _ fun v G1 H1 s1 r1 => hb B G1 σ H1 (ok.step s1) _ fun u G2 H2 s2 r2 => by
  cases r1
  cases r2
  exact ⟨m, n, rfl, ⟨h1, h2, h3, h4⟩, q _ G2 H2 (s1.tr s2) itd_rng⟩
end

/-! ### comprehensions -/
section
variable {K : PySem.W.Frag} {Γ : List Sl} {te : TE} {tt : TT} {wi : TI} {ds : List PyData} {j : Nat}
/-- the wiped frame with the item in -/
theorem wipe_set (σ : L2.St) (j : Nat) (v : V) : (wipe σ [j]).set j (some v) = σ.set j (some v) := by
  show (σ.set j none).set j (some v) = _
  rw [List.set_set]
theorem wipe_after (σ : L2.St) (j : Nat) (v : V) : wipe ((wipe σ [j]).set j (some v)) [j] = wipe σ [j] := by
  show ((σ.set j none).set j (some v)).set j none = σ.set j none
  rw [List.set_set, List.set_set]
theorem evN_lc {α : Type} {js : List Nat} (enc : α → PyData) (xs : List α) (p : α → Bool) (f : α → PyData) (hj : js = [j]) (hi : EvI wi Γ (xs.map enc)) (hz : xs.length ≤ sizeLine) (ht : ∀ x ∈ xs, EvT tt (Γ.set j (.d (enc x))) (p x)) (he : ∀ x ∈ xs, p x = true → Ev te (Γ.set j (.d (enc x))) (f x)) :
    EvN (tLc wi (gName j) tt te js) Γ ((xs.filter p).map f) := fun B G σ H ok Q q => hi B G σ H ok _ fun J G1 H1 s1 it => by
  subst hj
  intro D hD
  have hGD : G1 D = none := s1.gh.no hD
  have hlen : (xs.map enc).length = xs.length := List.length_map _
  refine ⟨fun i m H2 => m = xs.length - i ∧ i ≤ xs.length ∧ ∃ G2 acc, Stp G1 H1 G2 H2 ∧ G2 D = none ∧ H2 D = some (.lst acc) ∧ Rps G2 acc (((xs.take i).filter p).map f), ⟨xs.length, by simp, Nat.zero_le _, G1, [], Stp.newH s1.gh hD, hGD, upd_same, .nil⟩, ?_⟩
  rintro i m H2 ⟨rfl, hil, G2, acc, s2, hg2, hh2, ra⟩
  by_cases hlt : i < xs.length
  · have hget : xs[i]? = some xs[i] := List.getElem?_eq_getElem hlt
    have hget' : (xs.map enc)[i]? = some (enc xs[i]) := by rw [List.getElem?_map, hget]; rfl
    have hmem : xs[i] ∈ xs := List.getElem_mem hlt
    have htk : xs.take (i + 1) = xs.take i ++ [xs[i]] := by rw [List.take_add_one, hget]; rfl
    refine .inr ⟨it.go i H2 (by rw [hlen]; exact hlt) (s2.g.tr s2.gh), fun H' => ∃ G' acc', Stp G1 H1 G' H' ∧ G' D = none ∧ H' D = some (.lst acc') ∧ Rps G' acc' (((xs.take (i + 1)).filter p).map f),
      fun H' h' => ⟨xs.length - (i + 1), by omega, rfl, hlt, h'⟩, fun x H' hy => ?_⟩
    obtain ⟨rfl, rx⟩ := it.yld i H2 x H' _ hget' (s2.g.tr s2.gh) hy
    refine ⟨wipe_after σ j x, ?_⟩
    rw [wipe_set]
    have ok2 : Ok B G2 (σ.set j (some x)) H' (Γ.set j (.d (enc xs[i]))) := ((ok.step s1).step s2).setD j (rx.up s2.g)
    refine ht _ hmem B G2 _ H' ok2 _ fun G3 H3 s3 => ?_
    have hg3 : G3 D = none := s3.nw D _ hh2 hg2
    have hh3 : H3 D = some (.lst acc) := s3.h D _ hh2
    cases hp : p xs[i] with
    | false =>
      rw [if_neg Bool.false_ne_true]
      refine ⟨G3, acc, s2.tr s3, hg3, hh3, ?_⟩
      rw [htk, List.filter_append, List.filter_cons_of_neg (by rw [hp]; exact Bool.false_ne_true), List.filter_nil, List.append_nil]
      exact ra.up s3.g
    | true =>
      rw [if_pos rfl]
      refine he _ hmem hp B G3 _ H3 (ok2.step s3) _ fun v G4 H4 s4 rv => ?_
      have hh4 : H4 D = some (.lst acc) := s4.h D _ hh3
      have hg4 : G4 D = none := s4.nw D _ hh3 hg3
      have hal : acc.length < sizeLine := by
        have h1 := ra.length
        rw [List.length_map] at h1
        have h2 := List.length_filter_le p (xs.take i)
        rw [List.length_take] at h2
        omega
      refine ⟨acc, hh4, hal, G4, acc ++ [v], ?_, hg4, upd_same, ?_⟩
      · have st := (s2.tr s3).tr s4
        refine ⟨st.g, fun b o e => ?_, fun b o e => ?_, st.nw⟩
        · rw [upd_ne (ne_of_none e hD)]
          exact st.h b o e
        · rw [upd_ne (fun z => by subst z; rw [hg4] at e; cases e)]
          exact st.gh b o e
      · rw [htk, List.filter_append, List.map_append, List.filter_cons_of_pos hp, List.filter_nil]
        exact ((ra.up s3.g).up s4.g).app (.cons rv .nil)
  · have e : i = xs.length := by omega
    subst e
    rw [List.take_length] at ra
    refine .inl ⟨?_, q D acc G2 H2 (s1.tr s2) (s1.h.no hD) hg2 hh2 ra⟩
    have h := it.stop H2 (s2.g.tr s2.gh)
    rw [hlen] at h
    exact h
/-- without a test -/
theorem evN_lcm {α : Type} {js : List Nat} (enc : α → PyData) (xs : List α) (f : α → PyData) (hj : js = [j]) (hi : EvI wi Γ (xs.map enc)) (hz : xs.length ≤ sizeLine) (he : ∀ x ∈ xs, Ev te (Γ.set j (.d (enc x))) (f x)) : EvN (tLc wi (gName j) tYes te js) Γ (xs.map f) := by
  have h := evN_lc (tt := tYes) (te := te) (j := j) enc xs (fun _ => true) f hj hi hz (fun _ _ => et_yes) fun x hx _ => he x hx
  rw [List.filter_eq_self.mpr fun _ _ => rfl] at h
  exact h
end
end Ck

namespace Ck
open PySem PySem.Spec L2

/-! ### statements -/
def At (B : Bs) (Γ : List Sl) (k : L2.St → Hp → Prop) : Prop := ∀ (G : Hp) (σ : L2.St) (H : Hp), Ok B G σ H Γ → k σ H
/-- an owned list or dict is changed -/
theorem Ok.mut {B : Bs} {G : Hp} {σ : L2.St} {H : Hp} {Γ : List Sl} (k : Ok B G σ H Γ) {i : Nat} {a : Addr} {o : HO} {s' : Sl} (ho : ∀ h : Hp, h a = some o → Mt h a) (hm : ∀ f, OkF B G σ H Γ f → a ∈ f i) (hs : ∀ f : List Addr, a ∈ f → SlOk G (upd H a o) σ[i]? f s') : Ok B G σ (upd H a o) (Γ.set i s') := by
  obtain ⟨F, k⟩ := k
  have m := hm F k
  exact ⟨F, k.mut (fun b hb => upd_ne fun z => hb (z ▸ m)) (fun b hb => by
    by_cases e : b = a
    · subst e; exact ho _ upd_same
    · exact (k.fr i b hb).2.2.of (upd_ne e)) (hs _ m)⟩
theorem OkF.inOwn {B : Bs} {G : Hp} {σ : L2.St} {H : Hp} {Γ : List Sl} {F : Nat → List Addr} (k : OkF B G σ H Γ F) {i : Nat} {ds : List PyData} {a : Addr} (e : Γ[i]? = some (.own ds)) (e1 : σ[i]? = some (some (.ref a))) : a ∈ F i := by
  obtain ⟨b, vs, e2, m, _⟩ := k.sl i _ e
  rw [e1] at e2
  cases e2
  exact m
theorem OkF.inOwnD {B : Bs} {G : Hp} {σ : L2.St} {H : Hp} {Γ : List Sl} {F : Nat → List Addr} (k : OkF B G σ H Γ F) {i : Nat} {kvs : List (Str × Int)} {a : Addr} (e : Γ[i]? = some (.ownD kvs)) (e1 : σ[i]? = some (some (.ref a))) : a ∈ F i := by
  obtain ⟨b, e2, m, _⟩ := k.sl i _ e
  rw [e1] at e2
  cases e2
  exact m
section
variable {K : PySem.W.Frag} {B : Bs} {Γ : List Sl} {nx bk ct : L2.St → Hp → Prop} {rt : VK} {t u : TS} {te ti ta : TE} {tt : TT} {d : PyData} {ds : List PyData} {i j : Nat} {b : Bool} {k : L2.St → Hp → Prop}
theorem at_seq (h : At B Γ (t ⟨u ⟨nx, rt, bk, ct⟩, rt, bk, ct⟩)) : At B Γ (tSeq t u ⟨nx, rt, bk, ct⟩) := h
theorem at_next (h : At B Γ nx) : At B Γ (tNext ⟨nx, rt, bk, ct⟩) := h
theorem at_brk (h : At B Γ bk) : At B Γ (tBreak ⟨nx, rt, bk, ct⟩) := h
theorem at_cont (h : At B Γ ct) : At B Γ (tCont ⟨nx, rt, bk, ct⟩) := h
theorem at_set (h : Ev te Γ d) (q : At B (Γ.set i (.d d)) nx) : At B Γ (tAsg te (gName i) ⟨nx, rt, bk, ct⟩) := fun G σ H ok =>
  h B G σ H ok _ fun v G' H' s r => q G' _ H' ((ok.step s).setD i r)
theorem at_setN (h : EvN te Γ ds) (q : At B (Γ.set i (.own ds)) nx) : At B Γ (tAsg te (gName i) ⟨nx, rt, bk, ct⟩) := fun G σ H ok =>
  h B G σ H ok _ fun a vs G' H' s h0 hg hh r => q G' _ H' (ok.setF s i (f := [a]) ⟨a, vs, rfl, List.mem_cons_self, hh, r⟩ fun b m => by
    rcases List.mem_cons.mp m with rfl | m
    · exact ⟨h0, hg, .inl ⟨_, hh⟩⟩
    · cases m)
theorem at_setO (h : EvM te Γ [] d) (q : At B (Γ.set i (.ow d)) nx) : At B Γ (tAsg te (gName i) ⟨nx, rt, bk, ct⟩) := fun G σ H ok => by
  obtain ⟨F, k⟩ := ok
  exact h B G σ H F k _ fun v f G' H' s r nd m => q G' _ H' (Ok.setF ⟨F, k⟩ s i (f := f) ⟨v, f, rfl, r, nd, fun a ha => ha⟩ fun b mb => by
    refine ⟨?_, (m b mb).1, r.mt _ _ _ b mb⟩
    rcases (m b mb).2 with z | ⟨l, hl, _⟩
    · exact z
    · cases hl)
theorem at_retO {S : List Nat} (h : EvM te Γ S d) (q : ∀ v f G H, Stp B.g0 B.h0 G H → Ro G H v d f → f.Nodup → (∀ a ∈ f, B.h0 a = none ∧ G a = none) → rt v H) : At B Γ (tRet te ⟨nx, rt, bk, ct⟩) := fun G σ H ok => by
  obtain ⟨F, k⟩ := ok
  refine h B G σ H F k _ fun v f G' H' s r nd m => q v f G' H' (k.st.tr s) r nd fun a ha => ⟨?_, (m a ha).1⟩
  rcases (m a ha).2 with z | ⟨l, _, ml⟩
  · exact k.st.h.no z
  · exact (k.fr l a ml).1
theorem at_drop (h : Ev te Γ d) (q : At B Γ nx) : At B Γ (tDrop te ⟨nx, rt, bk, ct⟩) := fun G σ H ok => h B G σ H ok _ fun v G' H' s r => q G' _ H' (ok.step s)
theorem at_ret (h : Ev te Γ d) (q : ∀ v G H, Stp B.g0 B.h0 G H → Rp G v d → rt v H) : At B Γ (tRet te ⟨nx, rt, bk, ct⟩) := fun G σ H ok => h B G σ H ok _ fun v G' H' s r => q v G' H' (ok.st.tr s) r
theorem at_retN (q : ∀ G H, Stp B.g0 B.h0 G H → rt .non H) : At B Γ (tRetN ⟨nx, rt, bk, ct⟩) := fun G σ H ok => q G H ok.st
theorem at_if (h : EvT tt Γ b) (h1 : b = true → At B Γ (t ⟨nx, rt, bk, ct⟩)) (h2 : b = false → At B Γ (u ⟨nx, rt, bk, ct⟩)) : At B Γ (tIfS tt t u ⟨nx, rt, bk, ct⟩) := fun G σ H ok => h B G σ H ok _ fun G' H' s => by
  cases b with
  | true => rw [if_pos rfl]; exact h1 rfl G' σ H' (ok.step s)
  | false => rw [if_neg Bool.false_ne_true]; exact h2 rfl G' σ H' (ok.step s)
theorem at_freeze (e : Γ[i]? = some (.own ds)) (q : At B (Γ.set i (.d (.list ds))) k) : At B Γ k := fun G σ H ok => by
  obtain ⟨G', _, ok'⟩ := ok.freeze e
  exact q G' σ H ok'
theorem at_weak {Γ' : List Sl} (hl : Γ'.length = Γ.length) (h : ∀ (i : Nat) (s : Sl), Γ'[i]? = some s → s = .un ∨ Γ[i]? = some s) (q : At B Γ' k) : At B Γ k := fun G σ H ok => q G σ H (ok.weak hl h)
theorem at_append (e : Γ[i]? = some (.own ds)) (h : Ev te Γ d) (hz : ds.length < sizeLine) (q : At B (Γ.set i (.own (ds ++ [d]))) nx) : At B Γ (tDrop (tBM K "list" rAppend (tVar i) (tCons te tNil)) ⟨nx, rt, bk, ct⟩) := fun G σ H ok => by
  obtain ⟨a, vs, e1, h0, hg, hh, r⟩ := ok.own e
  refine ⟨.ref a, e1, .inl ⟨rfl, _, .inl (.inl hh)⟩, ?_⟩
  refine h B G σ H ok _ fun v G' H' s rv => ?_
  have ok' := ok.step s
  have hh' := s.h _ _ hh
  have hg' := s.nw _ _ hh hg
  refine ⟨a, vs, v, rfl, rfl, hh', by rw [r.length]; exact hz, ?_⟩
  exact q G' σ _ (ok'.mut (fun _ z => .inl ⟨_, z⟩) (fun F k => k.inOwn e e1) fun f m => ⟨a, vs ++ [v], e1, m, upd_same, (r.up s.g).app (.cons rv .nil)⟩)
theorem at_setitem {n : Int} (e : Γ[i]? = some (.own ds)) (hv : Ev te Γ d) (hi : Ev ti Γ (.int n)) (hx : ixN ds.length n = some j) (q : At B (Γ.set i (.own (ds.set j d))) nx) : At B Γ (tAsg te (gSub (tVar i) ti rSetL) ⟨nx, rt, bk, ct⟩) := fun G σ H ok => by
  obtain ⟨a, vs, e1, h0, hg, hh, r⟩ := ok.own e
  refine hv B G σ H ok _ fun v G1 H1 s1 rv => ⟨.ref a, e1, ?_⟩
  refine hi B G1 σ H1 (ok.step s1) _ fun w G2 H2 s2 rw' => ?_
  cases rw'
  have s := s1.tr s2
  have hh' := s.h _ _ hh
  have hg' := s.nw _ _ hh hg
  refine ⟨a, vs, n, j, rfl, rfl, hh', by rw [r.length]; exact hx, ?_⟩
  exact q G2 σ _ ((ok.step s).mut (fun _ z => .inl ⟨_, z⟩) (fun F k => k.inOwn e e1) fun f m => ⟨a, vs.set j v, e1, m, upd_same, (r.up s.g).set (rv.up s2.g) j⟩)
/-- an item of an owned list -/
theorem ev_ixOwn {n : Int} (e : Γ[i]? = some (.own ds)) (hi : Ev ti Γ (.int n)) (hx : atI ds n = some d) : Ev (tOp (rIx K) (tVar i) ti) Γ d := fun B G σ H ok Q q => by
  obtain ⟨a, vs, e1, h0, hg, hh, r⟩ := ok.own e
  refine ⟨.ref a, e1, ?_⟩
  refine hi B G σ H ok _ fun w G2 H2 s2 rw' => ?_
  cases rw'
  unfold atI at hx
  obtain ⟨j, hj, hd⟩ := Option.bind_eq_some_iff.mp hx
  obtain ⟨v, hv, rv⟩ := r.get hd
  refine .inl ⟨a, vs, n, v, rfl, rfl, .inl (.inl (s2.h _ _ hh)), ?_, q v G2 H2 s2 (rv.up s2.g)⟩
  unfold atI
  rw [r.length, hj]
  exact hv
end
/-- less is known -/
inductive Wk : List Sl → List Sl → Prop
  | nil : Wk [] []
  | un {s : Sl} {a b : List Sl} : Wk a b → Wk (.un :: a) (s :: b)
  | same {s : Sl} {a b : List Sl} : Wk a b → Wk (s :: a) (s :: b)
theorem Wk.len {a b : List Sl} (h : Wk a b) : a.length = b.length := by
  induction h with
  | nil => rfl
  | un _ ih => exact congrArg (· + 1) ih
  | same _ ih => exact congrArg (· + 1) ih
theorem Wk.get {a b : List Sl} (h : Wk a b) : ∀ (i : Nat) (s : Sl), a[i]? = some s → s = .un ∨ b[i]? = some s := by
  induction h with
  | nil => intro i s e; simp at e
  | un _ ih =>
    intro i s e
    cases i with
    | zero => simp at e; exact .inl e.symm
    | succ i => simpa using ih i s (by simpa using e)
  | same _ ih =>
    intro i s e
    cases i with
    | zero => simp at e; subst e; exact .inr (by simp)
    | succ i => simpa using ih i s (by simpa using e)
theorem at_wk {B : Bs} {Γ Γ' : List Sl} {k : L2.St → Hp → Prop} (q : At B Γ' k) (h : Wk Γ' Γ) : At B Γ k := at_weak h.len h.get q
section
variable {K : PySem.W.Frag} {B : Bs} {Γ : List Sl} {nx bk ct : L2.St → Hp → Prop} {rt : VK} {t u : TS} {te ti ta : TE} {tt : TT} {d : PyData} {ds : List PyData} {i j : Nat} {b : Bool} {k : L2.St → Hp → Prop}
/-- the slots with another one at a place, written out -/
inductive SetAt : List Sl → Nat → Sl → List Sl → Prop
  | zero {a s : Sl} {l : List Sl} : SetAt (a :: l) 0 s (s :: l)
  | succ {a s : Sl} {l l' : List Sl} {i : Nat} : SetAt l i s l' → SetAt (a :: l) (i + 1) s (a :: l')
theorem SetAt.eq {l l' : List Sl} {i : Nat} {s : Sl} (h : SetAt l i s l') : l.set i s = l' := by
  induction h with
  | zero => rfl
  | succ _ ih => rw [List.set_cons_succ, ih]
inductive Nf : List Sl → List Sl → Prop
  | nil : Nf [] []
  | cons {a : Sl} {l l' : List Sl} : Nf l l' → Nf (a :: l) (a :: l')
theorem Nf.eq {l l' : List Sl} (h : Nf l l') : l = l' := by
  induction h with
  | nil => rfl
  | cons _ ih => rw [ih]
theorem at_nf {Γ' : List Sl} (q : At B Γ' k) (h : Nf Γ Γ') : At B Γ k := h.eq ▸ q
theorem at_setA {Γ' : List Sl} (h : Ev te Γ d) (hs : SetAt Γ i (.d d) Γ') (q : At B Γ' nx) : At B Γ (tAsg te (gName i) ⟨nx, rt, bk, ct⟩) := at_set h (hs.eq ▸ q)
theorem at_setNA {Γ' : List Sl} (h : EvN te Γ ds) (hs : SetAt Γ i (.own ds) Γ') (q : At B Γ' nx) : At B Γ (tAsg te (gName i) ⟨nx, rt, bk, ct⟩) := at_setN h (hs.eq ▸ q)
theorem at_appendA {Γ' : List Sl} (e : Γ[i]? = some (.own ds)) (h : Ev te Γ d) (hz : ds.length < sizeLine) (hs : SetAt Γ i (.own (ds ++ [d])) Γ') (q : At B Γ' nx) : At B Γ (tDrop (tBM K "list" rAppend (tVar i) (tCons te tNil)) ⟨nx, rt, bk, ct⟩) := at_append e h hz (hs.eq ▸ q)
theorem at_setitemA {Γ' : List Sl} {n : Int} (e : Γ[i]? = some (.own ds)) (hv : Ev te Γ d) (hi : Ev ti Γ (.int n)) (hx : ixN ds.length n = some j) (hs : SetAt Γ i (.own (ds.set j d)) Γ') (q : At B Γ' nx) : At B Γ (tAsg te (gSub (tVar i) ti rSetL) ⟨nx, rt, bk, ct⟩) := at_setitem e hv hi hx (hs.eq ▸ q)
theorem at_freezeA {Γ' : List Sl} (e : Γ[i]? = some (.own ds)) (hs : SetAt Γ i (.d (.list ds)) Γ') (q : At B Γ' k) : At B Γ k := at_freeze e (hs.eq ▸ q)
/-- if c: x = e, else as it was -/
theorem at_ifSet {Γ' : List Sl} {d1 d0 : PyData} (h : EvT tt Γ b) (he : b = true → Ev te Γ d1) (h0 : Γ[i]? = some (.d d0)) (hs : SetAt Γ i (.d (if b then d1 else d0)) Γ') (q : At B Γ' nx) : At B Γ (tIfS tt (tAsg te (gName i)) tNext ⟨nx, rt, bk, ct⟩) := by
  rw [← hs.eq] at q
  refine at_if h (fun hb => at_set (he hb) ?_) (fun hb => at_next ?_)
  · rw [hb, if_pos rfl] at q; exact q
  · rw [hb, if_neg Bool.false_ne_true] at q
    have e : Γ.set i (.d d0) = Γ := by
      obtain ⟨hl, hv⟩ := List.getElem?_eq_some_iff.mp h0
      rw [← hv]; exact List.set_getElem_self hl
    rw [e] at q; exact q
/-! loops -/
theorem at_for {wi : TI} (I : Nat → List Sl) (P : Nat → Prop) (hi : EvI wi Γ ds) (h0 : Wk (I 0) Γ) (p0 : P 0)
    (hs : ∀ (gb : Hp) (i : Nat) (d : PyData) (N : L2.St → Hp → Prop), ds[i]? = some d → P i → (P (i + 1) → At ⟨gb, B.g0, B.h0⟩ (I (i + 1)) N) → At ⟨gb, B.g0, B.h0⟩ ((I i).set j (.d d)) (t ⟨N, rt, nx, N⟩))
    (he : P ds.length → At B (I ds.length) nx) : At B Γ (tFor wi (gName j) t ⟨nx, rt, bk, ct⟩) := fun G σ H ok => hi B G σ H ok _ fun J G1 H1 s1 it => by
  refine ⟨fun i m σ2 H2 => m = ds.length - i ∧ i ≤ ds.length ∧ P i ∧ ∃ G2, Ex G1 G2 ∧ Ok B G2 σ2 H2 (I i), ⟨ds.length, by simp, Nat.zero_le _, p0, G1, Ex.rfl' G1, (ok.step s1).weak h0.len h0.get⟩, ?_⟩
  rintro i m σ2 H2 ⟨rfl, hil, pi, G2, e2, ok2⟩
  by_cases hlt : i < ds.length
  · have hget : ds[i]? = some ds[i] := List.getElem?_eq_getElem hlt
    refine .inr ⟨it.go i H2 hlt (e2.tr ok2.gh), fun σ' H' => P (i + 1) ∧ ∃ G', Ex G1 G' ∧ Ok B G' σ' H' (I (i + 1)), fun σ' H' h' => ⟨ds.length - (i + 1), by omega, rfl, hlt, h'⟩, fun x H' hy => ?_⟩
    obtain ⟨rfl, rx⟩ := it.yld i H2 x H' _ hget (e2.tr ok2.gh) hy
    have ok3 := ok2.setD j (v := x) (rx.up e2)
    refine hs G2 i _ (fun σ' H' => P (i + 1) ∧ ∃ G', Ex G1 G' ∧ Ok B G' σ' H' (I (i + 1))) hget pi (fun p1 G' σ' H' ok' => ⟨p1, G', e2.tr ok'.eb, ok'.reb (ok2.eb.tr ok'.eb)⟩) G2 _ H' (ok3.reb (Ex.rfl' G2))
  · have e : i = ds.length := by omega
    subst e
    exact .inl ⟨it.stop H2 (e2.tr ok2.gh), he pi G2 σ2 H2 ok2⟩
/-- while: the state a, its slots I a, a number that falls -/
theorem at_while {α : Type} (I : α → List Sl) (P : α → Prop) (μ : α → Nat) (cb : α → Bool) (a0 : α) (h0 : Wk (I a0) Γ) (p0 : P a0) (hc : ∀ a, P a → EvT tt (I a) (cb a))
    (hs : ∀ (a : α) (N : L2.St → Hp → Prop), P a → cb a = true → (∀ a', P a' → μ a' < μ a → At B (I a') N) → At B (I a) (t ⟨N, rt, nx, N⟩))
    (he : ∀ a, P a → cb a = false → At B (I a) nx) : At B Γ (tWhile tt t ⟨nx, rt, bk, ct⟩) := fun G σ H ok => by
  refine ⟨fun m σ2 H2 => ∃ a G2, m = μ a ∧ P a ∧ Ok B G2 σ2 H2 (I a), ⟨μ a0, a0, G, rfl, p0, ok.weak h0.len h0.get⟩, ?_⟩
  rintro m σ2 H2 ⟨a, G2, rfl, pa, ok2⟩
  refine hc a pa B G2 σ2 H2 ok2 _ fun G3 H3 s3 => ?_
  cases hb : cb a with
  | true =>
    rw [if_pos rfl]
    exact ⟨fun σ' H' => ∃ a' G', P a' ∧ μ a' < μ a ∧ Ok B G' σ' H' (I a'), fun σ' H' ⟨a', G', p', l, ok'⟩ => ⟨μ a', l, a', G', rfl, p', ok'⟩, hs a _ pa hb (fun a' p' l G' σ' H' ok' => ⟨a', G', p', l, ok'⟩) G3 σ2 H3 (ok2.step s3)⟩
  | false =>
    rw [if_neg Bool.false_ne_true]
    exact he a pa hb G3 σ2 H3 (ok2.step s3)
end

/-! ### promises -/
/-- a def that raises nothing: of the arguments ds (n of them) it tells d -/
def spP (n : Nat) (R : List PyData → PyData → Prop) : Sp := fun vs H Q _ => ∃ ds d G, Ex G H ∧ Rps G vs ds ∧ ds.length = n ∧ R ds d ∧ ∀ v G' H', Stp G H G' H' → Rp G' v d → Q v H'
theorem spP_len {n : Nat} {R : List PyData → PyData → Prop} {vs : List V} {H : Hp} {Q : VK} {E : XK} (h : spP n R vs H Q E) : vs.length = n := by
  obtain ⟨ds, d, G, _, r, l, _⟩ := h
  rw [r.length]; exact l
def sls (N : Nat) (ds : List PyData) : List Sl := ds.map Sl.d ++ List.replicate (N - ds.length) Sl.un
theorem ok_start {N : List Str} {vs : List V} {ds : List PyData} {G H : Hp} (e : Ex G H) (r : Rps G vs ds) : Ok ⟨G, G, H⟩ G (L2.start N vs) H (sls N.length ds) := by
  have hl := r.length
  refine ⟨fun _ => [], Ex.rfl' G, Stp.rfl' e, by simp [L2.start, sls, hl], fun i s q => ?_, fun i a m => (by cases m), fun i j a _ m => (by cases m)⟩
  unfold sls at q
  by_cases hi : i < ds.length
  · rw [List.getElem?_append_left (by rw [List.length_map]; exact hi), List.getElem?_map] at q
    have hd : ds[i]? = some ds[i] := List.getElem?_eq_getElem hi
    rw [hd] at q
    have q' : Sl.d ds[i] = s := Option.some.inj q
    obtain ⟨v, hv, rv⟩ := r.get hd
    subst q'
    refine ⟨v, ?_, rv⟩
    unfold L2.start
    rw [List.getElem?_append_left (by rw [List.length_map, hl]; exact hi), List.getElem?_map, hv]
    rfl
  · rw [List.getElem?_append_right (by rw [List.length_map]; omega)] at q
    have := List.mem_of_getElem? q
    rw [List.mem_replicate] at this
    rw [this.2]
    trivial
/-- a body's reading from its data -/
theorem spP_body {N : List Str} {n : Nat} {R : List PyData → PyData → Prop} {t : TS}
    (h : ∀ (ds : List PyData) (d : PyData) (B : Bs) (Q : VK), ds.length = n → R ds d → (∀ v G H, Stp B.g0 B.h0 G H → Rp G v d → Q v H) → At B (sls N.length ds) (t { nx := fun _ H' => Q .non H', rt := Q }))
    {vs : List V} {H : Hp} {Q : VK} {E : XK} (hs : spP n R vs H Q E) : t { nx := fun _ H' => Q .non H', rt := Q } (L2.start N vs) H := by
  obtain ⟨ds, d, G, e, r, l, hR, q⟩ := hs
  exact h ds d ⟨G, G, H⟩ Q l hR q G _ H (ok_start e r)
section
variable {Γ : List Sl} {ta : TA} {ds : List PyData} {d : PyData} {n : Nat} {R : List PyData → PyData → Prop} {E : XK}
theorem ev_call (h : EvA ta Γ ds) (hn : ds.length = n) (hR : R ds d) : Ev (tCall (spP n R) [] E ta) Γ d := fun B G σ H ok Q q =>
  h B G σ H ok _ fun vs G1 H1 s1 r1 => by
    rw [List.append_nil]
    exact ⟨ds, d, G1, s1.gh, r1, hn, hR, fun v G' H' s r => q v G' H' (s1.tr s) r⟩
end
end Ck

namespace Ck
open PySem PySem.Spec PyProof.Rows L2

/-! ### + -/
def rCatR : R2 := fun x y H Q => ∃ l b xs zs, x = .ref l ∧ y = .ref b ∧ Rd H l (.lst xs) ∧ Rd H b (.lst zs) ∧ xs.length + zs.length ≤ sizeLine ∧ ∀ p, H p = none → Q (.ref p) (upd H p (.lst (xs ++ zs)))
def rAddI : R2 := rI0 fun i j => .int (i + j)
def rAddS : R2 := fun x y H Q => ∃ i j, x = .str i ∧ y = .str j ∧ i.length + j.length ≤ sizeLine ∧ Q (.str (i ++ j)) H
def rAddU (K : PySem.W.Frag) : R2 := fun x y H Q => rAddI x y H Q ∨ rAddS x y H Q ∨ rCatR x y H Q ∨ rCatA K x y H Q
section
variable {X : Cx}
theorem op_catR : OpR X (binaryOp .Add) rCatR := by
  intro pins s σ H x y v u Q I rx ry h
  obtain ⟨l, b, xs, zs, rfl, rfl, hH, hB, hz, q⟩ := h
  cases rx
  cases ry
  obtain ⟨z, its, n, r, e⟩ := hH.ok I.hok
  obtain ⟨z2, its2, n2, r2, e2⟩ := hB.ok I.hok
  have hl := r.length
  have hl2 := r2.length
  refine PySem.P.add_list e e2 ?_ (by rw [List.size_toArray, List.size_toArray]; omega)
  have ea : its.toArray ++ its2.toArray = (its ++ its2).toArray := by simp
  rw [ea]
  exact ⟨.ref _, _, I.lnew (t' := s.toks) (r.append r2) (by rw [List.length_append]; omega), rfl, q _ I.fresh⟩
theorem op_addU : OpR X (binaryOp .Add) (rAddU X.K) := by
  intro pins s σ H x y v u Q I rx ry h
  rcases h with h | h | h | h
  · exact op_add pins s σ H x y v u Q I rx ry h
  · exact op_add_str pins s σ H x y v u Q I rx ry h
  · exact op_catR pins s σ H x y v u Q I rx ry h
  · exact op_catA pins s σ H x y v u Q I rx ry h
end
section
variable {K : PySem.W.Frag}
theorem rv_addI {i j : Int} : RvD (rAddU K) (.int i) (.int j) (.int (i + j)) := fun G H v u e rx ry Q q => by
  cases rx; cases ry
  exact .inl ⟨i, j, rfl, rfl, q _ G H (Stp.rfl' e) (.int _)⟩
theorem rv_addS {i j : Str} (h : i.length + j.length ≤ sizeLine) : RvD (rAddU K) (.str i) (.str j) (.str (i ++ j)) := fun G H v u e rx ry Q q => by
  cases rx; cases ry
  exact .inr (.inl ⟨i, j, rfl, rfl, h, q _ G H (Stp.rfl' e) (.str _)⟩)
theorem rvN_addL {xs ys : List PyData} (h : xs.length + ys.length ≤ sizeLine) : RvN (rAddU K) (.list xs) (.list ys) (xs ++ ys) := fun G H v u e rx ry Q q => by
  cases rx with
  | lst h1 r1 =>
    cases ry with
    | lst h2 r2 => exact .inr (.inr (.inl ⟨_, _, _, _, rfl, rfl, e.rd h1, e.rd h2, by rw [r1.length, r2.length]; exact h, fun p hp => q p _ G _ (Stp.newH e hp) hp (e.no hp) upd_same (r1.app r2)⟩))
theorem rv_addT {xs ys : List PyData} (h : xs.length + ys.length ≤ sizeLine) : RvD (rAddU K) (.tuple xs) (.tuple ys) (.tuple (xs ++ ys)) := fun G H v u e rx ry Q q => by
  cases rx with
  | @tup a vs _ h1 r1 =>
    cases ry with
    | @tup b ws _ h2 r2 =>
      refine .inr (.inr (.inr ⟨a, b, vs, ws, rfl, rfl, rd_sqt (e.rd h1), rd_sqt (e.rd h2), by rw [r1.length, r2.length]; exact h, fun z => ?_, fun z1 z2 => ?_, fun _ _ p hp => ?_⟩))
      · subst z
        cases r1
        exact q _ G H (Stp.rfl' e) (.tup h2 r2)
      · subst z2
        cases r2
        rw [List.append_nil] at q
        exact q _ G H (Stp.rfl' e) (.tup h1 r1)
      · exact q _ _ _ (Stp.new e hp) (.tup (.inl upd_same) ((r1.app r2).up (Ex.new (e.no hp))))
theorem rv_I0 {g : Int → Int → V} {i j : Int} {d : PyData} (h : ∀ G, Rp G (g i j) d) : RvD (rI0 g) (.int i) (.int j) d := fun G H v u e rx ry Q q => by
  cases rx; cases ry
  exact ⟨i, j, rfl, rfl, q _ G H (Stp.rfl' e) (h G)⟩
theorem rv_I {C : Int → Int → Prop} {g : Int → Int → V} {i j : Int} {d : PyData} (c : C i j) (h : ∀ G, Rp G (g i j) d) : RvD (rI C g) (.int i) (.int j) d := fun G H v u e rx ry Q q => by
  cases rx; cases ry
  exact ⟨i, j, rfl, rfl, c, q _ G H (Stp.rfl' e) (h G)⟩
theorem rv_sub {i j : Int} : RvD (rI0 fun i j => .int (i - j)) (.int i) (.int j) (.int (i - j)) := rv_I0 fun _ => .int _
theorem rv_lt {i j : Int} : RvD (rI0 fun i j => .bl (decide (i < j))) (.int i) (.int j) (.bool (decide (i < j))) := rv_I0 fun _ => .bl _
theorem rv_le {i j : Int} : RvD (rI0 fun i j => .bl (decide (i ≤ j))) (.int i) (.int j) (.bool (decide (i ≤ j))) := rv_I0 fun _ => .bl _
theorem rv_fdiv {i j : Int} (c : CDivN i j) : RvD (rI CDivN fun i j => .int (i.fdiv j)) (.int i) (.int j) (.int (i.fdiv j)) := rv_I c fun _ => .int _
theorem rv_mod {i j : Int} (c : j ≠ 0) : RvD (rI (fun _ j => j ≠ 0) fun i j => .int (i.fmod j)) (.int i) (.int j) (.int (i.fmod j)) := rv_I c fun _ => .int _
theorem rv_pow {i j : Int} (c : CPow i j) : RvD (rI CPow fun i j => .int (i ^ j.toNat)) (.int i) (.int j) (.int (i ^ j.toNat)) := rv_I c fun _ => .int _
end

/-! ### * -/
def rRepR : R2 := fun x y H Q => ∃ l k xs, x = .ref l ∧ y = .int k ∧ Rd H l (.lst xs) ∧ -(2 ^ 63) ≤ k ∧ k < 2 ^ 63 ∧ xs.length * k.toNat ≤ sizeLine ∧
  ∀ p, H p = none → Q (.ref p) (upd H p (.lst (List.replicate k.toNat xs).flatten))
def rMulS : R2 := fun x y H Q => ∃ (z : Str) (k : Int), x = .str z ∧ y = .int k ∧ MulOk z k ∧ Q (.str (Txt.mul z k)) H
def rMulU : R2 := fun x y H Q => rI CMul (fun i j => .int (i * j)) x y H Q ∨ rRepR x y H Q ∨ rMulS x y H Q
section
variable {X : Cx}
theorem op_repR : OpR X (binaryOp .Mult) rRepR := by
  intro pins s σ H x y v u Q I rx ry h
  obtain ⟨l, k, xs, rfl, rfl, hH, h1, h2, hz, q⟩ := h
  cases rx
  obtain ⟨t, rfl⟩ := ry
  obtain ⟨z, its, n, r, e⟩ := hH.ok I.hok
  have hl := r.length
  have hlen : its.toArray.size * k.toNat ≤ sizeLine := by rw [List.size_toArray, ← hl]; exact hz
  have hcap : ¬ its.toArray.size * k.toNat > (2 ^ 63 - 1) / 8 := by
    have : (sizeLine : Nat) ≤ (2 ^ 63 - 1) / 8 := by decide
    omega
  have hfit : ¬ (!Builtin.List.listFitsIndex k) = true := by
    rw [fitsIndex_both h1 h2]
    exact Bool.false_ne_true
  have hlong : ¬ Builtin.List.listTooLong (its.toArray.size * k.toNat) = true := by
    rw [notLongL hlen]
    exact Bool.false_ne_true
  have hnew : List.foldl (fun x1 x2 => x1 ++ x2) #[] (List.replicate (if its.toArray.isEmpty = true then 0 else k.toNat) its.toArray) = (List.replicate k.toNat its).flatten.toArray := by
    have f0 : ∀ m : Nat, List.foldl (fun x1 x2 => x1 ++ x2) #[] (List.replicate m its.toArray) = (List.replicate m its).flatten.toArray := fun m => by
      have := foldl_rep its m []
      rw [List.nil_append] at this
      exact this
    rw [f0]
    cases its with
    | nil => simp
    | cons a r' => rw [if_neg (by simp)]
  refine wpAny_binaryOp_repeat_ref (T := "list") (U := "int") (by decide) ⟨_, e, rfl⟩ (fun s' => typeIs_int s' k t) noFill_list_mul F.fills_int_mul F.slot_int_rmul repeat_list F.slot_int_index.lookup
    (call_meets F.slot_int_rmul (typeIs_int s k t) F.entry_int_rmul (F.args_int_rmul_2 _ _) (int___rmul___int_list k t l its.toArray n)
      ⟨e, rfl, ⟨_, e, rfl⟩, call_meets F.slot_list_mul ⟨_, e, rfl⟩ F.entry_list_mul (F.args_list_mul_2 _ _) (AutoListH.list___mul___list_int_3 l its.toArray n k t hfit hcap hlong) ⟨e, ?_⟩⟩)
  rw [hnew]
  exact ⟨.ref _, _, I.lnew (t' := s.toks) (r.rep k.toNat) (by rw [PyProof.Rows.lm_len_rep_flat, Nat.mul_comm]; exact hz), rfl, q _ I.fresh⟩
theorem op_mulS : OpR X (binaryOp .Mult) rMulS := by
  intro pins s σ H x y v u Q I rx ry h
  obtain ⟨z, k, rfl, rfl, hok, q⟩ := h
  obtain ⟨t, rfl⟩ := rx
  obtain ⟨t', rfl⟩ := ry
  exact PySem.SB.mul hok fun t2 k2 => ⟨.str _, H, I.tok _, ⟨_, rfl⟩, q⟩
theorem op_mulU : OpR X (binaryOp .Mult) rMulU := by
  intro pins s σ H x y v u Q I rx ry h
  rcases h with h | h | h
  · exact op_mul pins s σ H x y v u Q I rx ry h
  · exact op_repR pins s σ H x y v u Q I rx ry h
  · exact op_mulS pins s σ H x y v u Q I rx ry h
end
theorem rv_mulI {i j : Int} (c : CMul i j) : RvD rMulU (.int i) (.int j) (.int (i * j)) := fun G H v u e rx ry Q q => by
  cases rx; cases ry
  exact .inl ⟨i, j, rfl, rfl, c, q _ G H (Stp.rfl' e) (.int _)⟩
theorem rv_mulS {z : Str} {k : Int} (c : MulOk z k) : RvD rMulU (.str z) (.int k) (.str (Txt.mul z k)) := fun G H v u e rx ry Q q => by
  cases rx; cases ry
  exact .inr (.inr ⟨z, k, rfl, rfl, c, q _ G H (Stp.rfl' e) (.str _)⟩)
theorem Rps.rep {G : Hp} {vs : List V} {ds : List PyData} (r : Rps G vs ds) : ∀ n : Nat, Rps G (List.replicate n vs).flatten (List.replicate n ds).flatten
  | 0 => .nil
  | n + 1 => by
    rw [List.replicate_succ, List.replicate_succ, List.flatten_cons, List.flatten_cons]
    exact r.app (Rps.rep r n)
theorem rvN_mulL {xs : List PyData} {k : Int} (h1 : -(2 ^ 63) ≤ k) (h2 : k < 2 ^ 63) (h3 : xs.length * k.toNat ≤ sizeLine) : RvN rMulU (.list xs) (.int k) (List.replicate k.toNat xs).flatten := fun G H v u e rx ry Q q => by
  cases ry
  cases rx with
  | lst hd r => exact .inr (.inl ⟨_, k, _, rfl, rfl, e.rd hd, h1, h2, by rw [r.length]; exact h3, fun p hp => q p _ G _ (Stp.newH e hp) hp (e.no hp) upd_same (r.rep k.toNat)⟩)

/-! ### ==, in, is -/
section
variable {K : PySem.W.Frag}
theorem rv_eqD {x y : PyData} (sx : SeqAt.shaped x = true) (sy : SeqAt.shaped y = true) : RvD (rEqD K) x y (.bool (PyData.eqv x y)) := fun G H v u e rx ry Q q =>
  ⟨x, y, (rx.up e).toDp sx, (ry.up e).toDp sy, sx, sy, q _ G H (Stp.rfl' e) (.bl _)⟩
theorem rv_neD {x y : PyData} (sx : SeqAt.shaped x = true) (sy : SeqAt.shaped y = true) : RvD (rNeD K) x y (.bool (!PyData.eqv x y)) := fun G H v u e rx ry Q q =>
  ⟨x, y, (rx.up e).toDp sx, (ry.up e).toDp sy, sx, sy, q _ G H (Stp.rfl' e) (.bl _)⟩
end
def isNonD : PyData → Bool
  | .none => true
  | _ => false
def isTrueD : PyData → Bool
  | .bool b => b
  | _ => false
def rIsN' : R2 := fun x y H Q => y = .non ∧ Q (.bl (decide (x = .non))) H
def rNotN' : R2 := fun x y H Q => y = .non ∧ Q (.bl (!decide (x = .non))) H
theorem op_isN' {X : Cx} : OpR X (compareOp .Is) rIsN' := op_isN
theorem op_notN' {X : Cx} : OpR X (compareOp .IsNot) rNotN' := op_notN
theorem Rp.isNon {G : Hp} {v : V} {d : PyData} (h : Rp G v d) : decide (v = .non) = isNonD d := by
  cases h <;> rfl
theorem rv_isN {x : PyData} : RvD rIsN' x .none (.bool (isNonD x)) := fun G H v u e rx ry Q q => by
  cases ry
  refine ⟨rfl, ?_⟩
  rw [rx.isNon]
  exact q _ G H (Stp.rfl' e) (.bl _)
theorem rv_notN {x : PyData} : RvD rNotN' x .none (.bool (!isNonD x)) := fun G H v u e rx ry Q q => by
  cases ry
  refine ⟨rfl, ?_⟩
  rw [rx.isNon]
  exact q _ G H (Stp.rfl' e) (.bl _)
theorem rv_isB {a b : Bool} : RvD rIsB (.bool a) (.bool b) (.bool (decide (a = b))) := fun G H v u e rx ry Q q => by
  cases rx; cases ry
  exact ⟨a, b, rfl, rfl, q _ G H (Stp.rfl' e) (.bl _)⟩
/-- in: flat items of a list, a tuple; data in a list; one sign in a text -/
def rInU (K : PySem.W.Frag) : R2 := fun x y H Q => rIn K false x y H Q ∨ rInD K x y H Q ∨ (∃ (c : Nat) (z : Str), x = .str ⟨#[c]⟩ ∧ y = .str z ∧ Q (.bl (decide (c ∈ z.cps.toList))) H)
def rNotInU (K : PySem.W.Frag) : R2 := fun x y H Q => rIn K true x y H Q ∨ rNotInD K x y H Q
section
variable {X : Cx}
theorem op_inU (hu : X.A.units + 65 < cLine) : OpR X (compareOp .In) (rInU X.K) := by
  intro pins s σ H x y v u Q I rx ry h
  rcases h with h | h | h
  · exact op_in_seq pins s σ H x y v u Q I rx ry h
  · exact op_inD hu pins s σ H x y v u Q I rx ry h
  · exact op_in_sign pins s σ H x y v u Q I rx ry h
theorem op_notInU (hu : X.A.units + 65 < cLine) : OpR X (compareOp .NotIn) (rNotInU X.K) := by
  intro pins s σ H x y v u Q I rx ry h
  rcases h with h | h
  · exact op_notIn_seq pins s σ H x y v u Q I rx ry h
  · exact op_notInD hu pins s σ H x y v u Q I rx ry h
end
def eqS : PyData → PyData → Bool
  | .none, .none => true
  | .bool a, .bool b => a == b
  | .bool a, .int b => (if a then 1 else 0) == b
  | .int a, .bool b => a == (if b then 1 else 0)
  | .int a, .int b => a == b
  | .str a, .str b => a == b
  | _, _ => false
theorem Rp.flat {G : Hp} {v : V} {d : PyData} (h : Rp G v d) : flatV v = Sc d := by
  cases h <;> rfl
theorem Rps.flat {G : Hp} : ∀ {vs : List V} {ds : List PyData}, Rps G vs ds → vs.all flatV = ds.all Sc
  | _, _, .nil => rfl
  | _, _, .cons r t => by rw [List.all_cons, List.all_cons, r.flat, Rps.flat t]
theorem Rp.eqS {G : Hp} {v u : V} {d e : PyData} (h : Rp G v d) (k : Rp G u e) (fd : Sc d = true) (fe : Sc e = true) : eqV v u = eqS d e := by
  cases h with
  | lst _ _ => cases fd
  | tup _ _ => cases fd
  | dct _ _ => cases fd
  | _ => cases k with
    | lst _ _ => cases fe
    | tup _ _ => cases fe
    | dct _ _ => cases fe
    | _ => rfl
theorem Rps.inS {G : Hp} {x : V} {d : PyData} (h : Rp G x d) (fd : Sc d = true) : ∀ {vs : List V} {ds : List PyData}, Rps G vs ds → ds.all Sc = true → inV x vs = ds.any fun y => Ck.eqS y d
  | _, _, .nil, _ => rfl
  | _, _, .cons r t, f => by
    rw [List.all_cons, Bool.and_eq_true] at f
    unfold inV
    rw [List.any_cons, List.any_cons, r.eqS h f.1 fd]
    have := Rps.inS h fd t f.2
    unfold inV at this
    rw [this]
section
variable {K : PySem.W.Frag}
theorem rv_inT {x : PyData} {ds : List PyData} (sx : Sc x = true) (sd : ds.all Sc = true) : RvD (rInU K) x (.tuple ds) (.bool (ds.any fun y => eqS y x)) := fun G H v u e rx ry Q q => by
  cases ry with
  | tup hd r =>
    refine .inl ⟨_, _, rfl, .inr (rd_sqt (e.rd hd)), by rw [rx.flat]; exact sx, by rw [r.flat]; exact sd, ?_⟩
    rw [if_neg Bool.false_ne_true, Rps.inS rx sx r sd]
    exact q _ G H (Stp.rfl' e) (.bl _)
theorem rv_notInT {x : PyData} {ds : List PyData} (sx : Sc x = true) (sd : ds.all Sc = true) : RvD (rNotInU K) x (.tuple ds) (.bool (!ds.any fun y => eqS y x)) := fun G H v u e rx ry Q q => by
  cases ry with
  | tup hd r =>
    refine .inl ⟨_, _, rfl, .inr (rd_sqt (e.rd hd)), by rw [rx.flat]; exact sx, by rw [r.flat]; exact sd, ?_⟩
    rw [if_pos rfl, Rps.inS rx sx r sd]
    exact q _ G H (Stp.rfl' e) (.bl _)
theorem rv_inL {x : PyData} {ds : List PyData} (sx : SeqAt.shaped x = true) (sd : SeqAt.shaped (.list ds) = true) : RvD (rInU K) x (.list ds) (.bool (ds.any fun y => PyData.eqv y x)) := fun G H v u e rx ry Q q =>
  .inr (.inl ⟨x, ds, (rx.up e).toDp sx, (ry.up e).toDp sd, sx, sd, q _ G H (Stp.rfl' e) (.bl _)⟩)
theorem rv_notInL {x : PyData} {ds : List PyData} (sx : SeqAt.shaped x = true) (sd : SeqAt.shaped (.list ds) = true) : RvD (rNotInU K) x (.list ds) (.bool (!ds.any fun y => PyData.eqv y x)) := fun G H v u e rx ry Q q =>
  .inr ⟨x, ds, (rx.up e).toDp sx, (ry.up e).toDp sd, sx, sd, q _ G H (Stp.rfl' e) (.bl _)⟩
theorem rv_inS {c : Nat} {z : Str} : RvD (rInU K) (.str ⟨#[c]⟩) (.str z) (.bool (decide (c ∈ z.cps.toList))) := fun G H v u e rx ry Q q => by
  cases rx; cases ry
  exact .inr (.inr ⟨c, z, rfl, rfl, q _ G H (Stp.rfl' e) (.bl _)⟩)
end

/-! ### subscripts, slices -/
section
variable {K : PySem.W.Frag}
theorem rps_atI {G : Hp} {vs : List V} {ds : List PyData} {i : Int} {d : PyData} (r : Rps G vs ds) (h : atI ds i = some d) : ∃ v, atI vs i = some v ∧ Rp G v d := by
  unfold atI at h ⊢
  rw [r.length]
  obtain ⟨j, hj, hd⟩ := Option.bind_eq_some_iff.mp h
  obtain ⟨v, hv, rv⟩ := r.get hd
  exact ⟨v, by rw [hj]; exact hv, rv⟩
theorem rv_ixL {ds : List PyData} {i : Int} {d : PyData} (h : atI ds i = some d) : RvD (rIx K) (.list ds) (.int i) d := fun G H v u e rx ry Q q => by
  cases ry
  cases rx with
  | lst hd r =>
    obtain ⟨w, hw, rw'⟩ := rps_atI r h
    exact .inl ⟨_, _, i, w, rfl, rfl, rd_sql (e.rd hd), hw, q _ G H (Stp.rfl' e) rw'⟩
theorem rv_ixT {ds : List PyData} {i : Int} {d : PyData} (h : atI ds i = some d) : RvD (rIx K) (.tuple ds) (.int i) d := fun G H v u e rx ry Q q => by
  cases ry
  cases rx with
  | tup hd r =>
    obtain ⟨w, hw, rw'⟩ := rps_atI r h
    exact .inr (.inl ⟨_, _, i, w, rfl, rfl, rd_sqt (e.rd hd), hw, q _ G H (Stp.rfl' e) rw'⟩)
theorem rv_ixS {z : Str} {i : Int} {c : Nat} (hz : z.length ≤ sizeLine) (h : atI z.cps.toList i = some c) : RvD (rIx K) (.str z) (.int i) (.str ⟨#[c]⟩) := fun G H v u e rx ry Q q => by
  cases ry; cases rx
  exact .inr (.inr ⟨z, i, c, rfl, rfl, hz, h, q _ G H (Stp.rfl' e) (.str _)⟩)
end
def cutG {α : Type} (xs : List α) (lo hi : Option Int) : List α := (xs.drop (HT.sIx xs.length 0 lo)).take (HT.sIx xs.length xs.length hi - HT.sIx xs.length 0 lo)
theorem Rps.cut {G : Hp} {vs : List V} {ds : List PyData} (r : Rps G vs ds) (lo hi : Option Int) : Rps G (cutV vs lo hi) (cutG ds lo hi) := by
  unfold cutV cutG
  rw [r.length]
  exact (r.drop _).take _
theorem cutG_whole {α : Type} (xs : List α) {lo hi : Option Int} (h : HT.sIx xs.length 0 lo = 0 ∧ HT.sIx xs.length xs.length hi = xs.length) : cutG xs lo hi = xs := by
  unfold cutG
  rw [h.1, h.2, List.drop_zero, Nat.sub_zero, List.take_length]
def rSlS : V → Option Int → Option Int → Hp → VK → Prop := fun x lo hi H Q => ∃ z, x = .str z ∧ z.length ≤ sizeLine ∧ Q (.str (cutS z lo hi)) H
def rSlU (K : PySem.W.Frag) : V → Option Int → Option Int → Hp → VK → Prop := fun x lo hi H Q => rSlL K x lo hi H Q ∨ rSlA K x lo hi H Q ∨ rSlS x lo hi H Q
theorem sl_U {X : Cx} : SlR X (rSlU X.K) := sl_list.or (sl_tupA.or sl_str)
section
variable {K : PySem.W.Frag}
theorem rsN_L {ds : List PyData} {lo hi : Option Int} : RsN (rSlU K) (.list ds) lo hi (cutG ds lo hi) := fun G H v e rx Q q => by
  cases rx with
  | lst hd r => exact .inl ⟨_, _, rfl, rd_sql (e.rd hd), fun p hp => q p _ G _ (Stp.newH e hp) hp (e.no hp) upd_same (r.cut lo hi)⟩
theorem rs_T {ds : List PyData} {lo hi : Option Int} : RsD (rSlU K) (.tuple ds) lo hi (.tuple (cutG ds lo hi)) := fun G H v e rx Q q => by
  cases rx with
  | @tup a vs _ hd r =>
    refine .inr (.inl ⟨a, vs, rfl, rd_sqt (e.rd hd), fun w => ?_, fun _ p hp => ?_⟩)
    · rw [r.length] at w
      rw [cutG_whole ds w] at q
      exact q _ G H (Stp.rfl' e) (.tup hd r)
    · exact q _ _ _ (Stp.new e hp) (.tup (.inl upd_same) ((r.cut lo hi).up (Ex.new (e.no hp))))
theorem rs_S {z : Str} {lo hi : Option Int} (hz : z.length ≤ sizeLine) : RsD (rSlU K) (.str z) lo hi (.str (cutS z lo hi)) := fun G H v e rx Q q => by
  cases rx
  exact .inr (.inr ⟨z, rfl, hz, q _ G H (Stp.rfl' e) (.str _)⟩)
end

/-! ### calls of built-ins -/
def rLenV (K : PySem.W.Frag) : List V → Hp → VK → Prop := fun xs H Q => ∃ x n, xs = [x] ∧ LenV K x H n ∧ Q (.int n) H
theorem call_lenV {X : Cx} : CallR X (.builtin "len") (rLenV X.K) := call_len
def rListV (K : PySem.W.Frag) : List V → Hp → VK → Prop := fun xs H Q => ∃ p ys, xs = [.ref p] ∧ (SqL K H p ys ∨ SqT K H p ys) ∧ ∀ l, H l = none → Q (.ref l) (upd H l (.lst ys))
theorem call_listV {X : Cx} : CallR X (.type "list") (rListV X.K) := call_list_of
def rMax2V : List V → Hp → VK → Prop := fun xs H Q => ∃ i j, xs = [.int i, .int j] ∧ Q (.int (if j > i then j else i)) H
def rMin2V : List V → Hp → VK → Prop := fun xs H Q => ∃ i j, xs = [.int i, .int j] ∧ Q (.int (if j < i then j else i)) H
def rInt1V : List V → Hp → VK → Prop := fun xs H Q => (∃ i, xs = [.int i] ∧ Q (.int i) H) ∨ ∃ k, xs = [.bl k] ∧ Q (.int (if k then 1 else 0)) H
theorem call_max2V {X : Cx} (hc : X.calm = true) : CallR X (.builtin "max") rMax2V := call_max2 hc
theorem call_min2V {X : Cx} (hc : X.calm = true) : CallR X (.builtin "min") rMin2V := call_min2 hc
theorem call_int1V {X : Cx} : CallR X (.type "int") rInt1V := call_int1
section
variable {K : PySem.W.Frag} {Γ : List Sl} {ta tb : TE}
theorem rc_lenL {ds : List PyData} : RcD (rLenV K) [.list ds] (.int ds.length) := fun G H vs e r Q q => by
  cases r with
  | cons r1 r2 =>
    cases r2
    cases r1 with
    | lst hd r => exact ⟨_, ds.length, rfl, .inl ⟨_, rd_sql (e.rd hd), r.length.symm⟩, q _ G H (Stp.rfl' e) (.int _)⟩
theorem rc_lenT {ds : List PyData} : RcD (rLenV K) [.tuple ds] (.int ds.length) := fun G H vs e r Q q => by
  cases r with
  | cons r1 r2 =>
    cases r2
    cases r1 with
    | tup hd r => exact ⟨_, ds.length, rfl, .inr ⟨_, rd_sqt (e.rd hd), r.length.symm⟩, q _ G H (Stp.rfl' e) (.int _)⟩
theorem rc_lenS {z : Str} (hz : z.length ≤ sizeLine) : RcD (rLenV K) [.str z] (.int z.length) := fun G H vs e r Q q => by
  cases r with
  | cons r1 r2 =>
    cases r2
    cases r1
    exact ⟨_, z.length, rfl, ⟨hz, rfl⟩, q _ G H (Stp.rfl' e) (.int _)⟩
theorem rcN_listL {ds : List PyData} : RcN (rListV K) [.list ds] ds := fun G H vs e r Q q => by
  cases r with
  | cons r1 r2 =>
    cases r2
    cases r1 with
    | lst hd r => exact ⟨_, _, rfl, .inl (rd_sql (e.rd hd)), fun l hl => q l _ G _ (Stp.newH e hl) hl (e.no hl) upd_same r⟩
theorem rcN_listT {ds : List PyData} : RcN (rListV K) [.tuple ds] ds := fun G H vs e r Q q => by
  cases r with
  | cons r1 r2 =>
    cases r2
    cases r1 with
    | tup hd r => exact ⟨_, _, rfl, .inr (rd_sqt (e.rd hd)), fun l hl => q l _ G _ (Stp.newH e hl) hl (e.no hl) upd_same r⟩
theorem rc_max2 {i j : Int} : RcD rMax2V [.int i, .int j] (.int (max i j)) := fun G H vs e r Q q => by
  cases r with
  | cons r1 r2 =>
    cases r2 with
    | cons r2 r3 =>
      cases r3; cases r1; cases r2
      refine ⟨i, j, rfl, ?_⟩
      have : (if j > i then j else i) = max i j := by omega
      rw [this]
      exact q _ G H (Stp.rfl' e) (.int _)
theorem rc_min2 {i j : Int} : RcD rMin2V [.int i, .int j] (.int (min i j)) := fun G H vs e r Q q => by
  cases r with
  | cons r1 r2 =>
    cases r2 with
    | cons r2 r3 =>
      cases r3; cases r1; cases r2
      refine ⟨i, j, rfl, ?_⟩
      have : (if j < i then j else i) = min i j := by omega
      rw [this]
      exact q _ G H (Stp.rfl' e) (.int _)
theorem rc_intB {b : Bool} : RcD rInt1V [.bool b] (.int (if b then 1 else 0)) := fun G H vs e r Q q => by
  cases r with
  | cons r1 r2 =>
    cases r2; cases r1
    exact .inr ⟨b, rfl, q _ G H (Stp.rfl' e) (.int _)⟩
theorem rc_sum {ns : List Int} : RcD (rSum K) [.list (ns.map .int)] (.int ns.sum) := fun G H vs e r Q q => by
  cases r with
  | cons r1 r2 =>
    cases r2
    cases r1 with
    | lst hd r =>
      have e1 := r.ints
      subst e1
      exact ⟨_, ns, rfl, rd_sql (e.rd hd), q _ G H (Stp.rfl' e) (.int _)⟩
theorem rc_maxL {ns : List Int} {m : Int} (h0 : 0 < ns.length) (hm : ∀ k, k ∈ ns → (∀ y, y ∈ ns → y ≤ k) → k = m) : RcD (rMax K) [.list (ns.map .int)] (.int m) := fun G H vs e r Q q => by
  cases r with
  | cons r1 r2 =>
    cases r2
    cases r1 with
    | lst hd r =>
      have e1 := r.ints
      subst e1
      refine ⟨_, ns, rfl, rd_sql (e.rd hd), h0, fun k hk hle => ?_⟩
      rw [hm k hk hle]
      exact q _ G H (Stp.rfl' e) (.int _)
theorem rc_all {bs : List Bool} : RcD (rAll K) [.list (bs.map .bool)] (.bool (bs.all id)) := fun G H vs e r Q q => by
  cases r with
  | cons r1 r2 =>
    cases r2
    cases r1 with
    | lst hd r =>
      have e1 := r.bls
      subst e1
      exact ⟨_, bs, rfl, rd_sql (e.rd hd), q _ G H (Stp.rfl' e) (.bl _)⟩
theorem rcN_sorted {ns ns' : List Int} (h64 : ns.length < 64) (hp : ns'.Perm ns) (hs : ns'.Pairwise (· ≤ ·)) : RcN (rSorted K) [.list (ns.map .int)] (ns'.map .int) := fun G H vs e r Q q => by
  cases r with
  | cons r1 r2 =>
    cases r2
    cases r1 with
    | lst hd r =>
      have e1 := r.ints
      subst e1
      refine ⟨_, ns, rfl, rd_sql (e.rd hd), h64, fun ms p hpm hsm hn => ?_⟩
      have e2 : ms = ns' := by
        have hperm := hpm.trans hp.symm
        exact List.Perm.eq_of_pairwise (fun a b _ _ h1 h2 => Int.le_antisymm h1 h2) hsm hs hperm
      subst e2
      exact q p _ G _ (Stp.newH e hn) hn (e.no hn) upd_same (Rps.ofInts _)
/-! isinstance with a built-in class -/
def tyNm : PyData → String
  | .none => "NoneType"
  | .bool _ => "bool"
  | .int _ => "int"
  | .str _ => "str"
  | .list _ => "list"
  | .tuple _ => "tuple"
  | .dict _ => "dict"
theorem Rp.ty {G : Hp} {v : V} {d : PyData} (h : Rp G v d) : TyX K G v (.type (tyNm d)) := by
  cases h with
  | non => exact .base .non
  | bl b => exact .base (.bl b)
  | int i => exact .base (.int i)
  | str x => exact .base (.str x)
  | lst h r =>
    rcases h with h | ⟨o, h⟩
    · exact .base (.lst h)
    · exact .base (.frz h)
  | tup h r =>
    rcases h with h | ⟨o, h⟩
    · exact .base (.tup h)
    · exact .fTuple h
  | dct h _ => exact .base (.dK h)
theorem ev_isi {n : String} {d : PyData} {b : Bool} (h : Ev ta Γ d) (hb : kitB (tyNm d) n = some b) : Ev (tCB (rIsi K) (tCons ta (tCons (tC (.ty n)) tNil))) Γ (.bool b) := fun B G σ H ok Q q =>
  h B G σ H ok _ fun v G1 H1 s1 r1 => ⟨v, .ty n, .type (tyNm d), .type n, b, rfl, .ty n, (r1.up s1.gh).ty, kit_ty hb, q _ G1 H1 s1 (.bl b)⟩
end

/-! ### in a range -/
def rRange1 : List V → Hp → VK → Prop := fun vs H Q => ∃ j, vs = [V.int j] ∧ ∀ p, H p = none → Q (.ref p) (upd H p (.rng 0 j))
def rInR : R2 := fun x y H Q => ∃ i a lo hi, x = V.int i ∧ y = V.ref a ∧ H a = some (.rng lo hi) ∧ Q (.bl (decide (lo ≤ i ∧ i < hi))) H
def rNotInR : R2 := fun x y H Q => ∃ i a lo hi, x = V.int i ∧ y = V.ref a ∧ H a = some (.rng lo hi) ∧ Q (.bl (!decide (lo ≤ i ∧ i < hi))) H
section
variable {X : Cx}
theorem cr_range1 : CallR X (.type "range") rRange1 := by
  intro pins s σ H xs us Q I r h
  obtain ⟨j, rfl, q⟩ := h
  obtain ⟨u1, rfl, t, rfl⟩ := vals1 r
  refine call_range_1 ⟨.ref _, upd H _ (.rng 0 j), I.laid (fun b o e => Heap.get?_push_of_some _ e) (Nat.le_refl _) ?_, rfl, q _ (I.hok.fresh (Nat.le_refl _))⟩
  exact ⟨_, _, _, Heap.get?_push_size _ rfl⟩
theorem op_inR : OpR X (compareOp .In) rInR := op_in_rng
theorem op_notInR : OpR X (compareOp .NotIn) rNotInR := by
  intro pins s σ H x y v u Q I rx ry h
  obtain ⟨i, a, lo, hi, rfl, rfl, ha, q⟩ := h
  obtain ⟨k, rfl⟩ := rx
  obtain rfl : u = Value.ref a := ry
  obtain ⟨t1, t2, t3, ho⟩ := I.hok a _ ha
  show wpAny _ _ (do return Value.bool (!(← contains (Value.ref a) (Value.int i k)))) _ _ s
  refine wpAny_bind (wpAny_contains_slot (T := "range") ⟨_, ho, rfl⟩ F.slot_range_contains (call_meets F.slot_range_contains ⟨_, ho, rfl⟩ F.entry_range_contains (F.args_range_contains_2 _ _) (q_contains a lo hi i t1 t2 t3 k)
    ⟨ho, wpAny_truthy_bool (wpAny_pure ⟨.bl _, H, I, rfl, ?_⟩)⟩))
  rw [place1]
  exact q
end
section
variable {Γ : List Sl} {ta tn : TE} {i n : Int}
theorem ev_inR (h : Ev ta Γ (.int i)) (hn : Ev tn Γ (.int n)) : Ev (tOp rInR ta (tCB rRange1 (tCons tn tNil))) Γ (.bool (decide (0 ≤ i ∧ i < n))) := fun B G σ H ok Q q =>
  h B G σ H ok _ fun v G1 H1 s1 r1 => hn B G1 σ H1 (ok.step s1) _ fun u G2 H2 s2 r2 => by
    cases r1; cases r2
    exact ⟨n, rfl, fun p hp => ⟨i, p, 0, n, rfl, rfl, upd_same, q _ _ _ ((s1.tr s2).tr (Stp.newH s2.gh hp)) (.bl _)⟩⟩
theorem ev_notInR (h : Ev ta Γ (.int i)) (hn : Ev tn Γ (.int n)) : Ev (tOp rNotInR ta (tCB rRange1 (tCons tn tNil))) Γ (.bool (!decide (0 ≤ i ∧ i < n))) := fun B G σ H ok Q q =>
  h B G σ H ok _ fun v G1 H1 s1 r1 => hn B G1 σ H1 (ok.step s1) _ fun u G2 H2 s2 r2 => by
    cases r1; cases r2
    exact ⟨n, rfl, fun p hp => ⟨i, p, 0, n, rfl, rfl, upd_same, q _ _ _ ((s1.tr s2).tr (Stp.newH s2.gh hp)) (.bl _)⟩⟩
end
end Ck

namespace Ck
open PySem PySem.Spec PyProof.Rows L2

/-! ### the defs of the text -/
abbrev FnP (K : PySem.W.Frag) (x : Str) (st : Stmt) (f : Addr) (fd : FuncData) : Prop := FunD K x x (defArgs st) (defBody st) (defScope st) [] [] f fd
def Has (K : PySem.W.Frag) (mg : Str → Option Value) (x : Str) (st : Stmt) : Prop := ∃ f fd, FnP K x st f fd ∧ mg x = some (.ref f)
structure Def (P : Program) (w : World) (K : PySem.W.Frag) (mg : Str → Option Value) (base : Heap) (CX : CXT) (k : Nat) (x : Str) (ps : List Str) (sp : Sp) : Prop where
  ex : ∃ f fd, mg x = some (.ref f) ∧ PySem.W.keepIn K (.ref f) = true ∧ Binds K fd ps [] ∧ FnOk P w K mg base CX k f fd ps sp ∧ ∃ oc od osl, K.lookup f = some ⟨oc, od, .func fd, osl⟩
theorem passX0 {X : Cx} : Passes (L2.CX X.prog X.w) X E0 := fun _ _ _ _ _ _ _ h => by
  obtain ⟨_, _, _, _, _, _, _, _, _, _, _, _, z⟩ := h
  exact z.elim
/-- every parameter is written -/
abbrev BindsP (x : Str) (st : Stmt) (ps : List Str) : Prop := ∀ (kV doc pm : Value) (an : Option Addr) (cdv ct : Value) (us : List Value), us.length = ps.length →
  bindArgs (PySem.W.fnOf x x (defArgs st) (defBody st) (defScope st) .none kV doc pm an cdv ct) ⟨us, []⟩ = pure (ps.zip us)
section
variable {P : Program} {w : World} {K : PySem.W.Frag} {mg : Str → Option Value} {base : Heap} {x : Str} {st : Stmt} {N ps : List Str} {k n : Nat}
/-- what a returned value must bring -/
abbrev RtOk (B : Bs) (Q : VK) (d : PyData) : Prop := ∀ v G H, Stp B.g0 B.h0 G H → Rp G v d → Q v H
abbrev BodyP (N n : Nat) (R : List PyData → PyData → Prop) (t : TS) : Prop := ∀ (ds : List PyData) (d : PyData) (B : Bs) (Q : VK), ds.length = n → R ds d → RtOk B Q d → At B (sls N ds) (t { nx := fun _ H' => Q .non H', rt := Q })
theorem mk_def {CX : CXT} {sp : Sp} (h : Has K mg x st) (hb : BindsP x st ps) (S : FnScope N ps (defScope st)) (len : ∀ vs H Q E, sp vs H Q E → vs.length = ps.length)
    (hbody : ∀ (f : Addr) (cdv : Value) (A : Around) (outer : List Env) (s : Shared) (H : Hp) (vs : List V) (Q : VK) (E : XK), Room k (A.deeper (envOfC x (defScope st) s.heap.objs.size f cdv)) → sp vs H Q E →
      ∃ t, PSs (cxOf CX P w K mg base N x (defScope st) f cdv A outer s H E) (defBody st) t ∧ t { nx := fun _ H' => Q .non H', rt := Q } (L2.start N vs) H) : Def P w K mg base CX (k + 1) x ps sp := by
  obtain ⟨f, fd, F, g⟩ := h
  obtain ⟨oc, od, _, _, _, _, _, _, _, osl, _, lk, _⟩ := F.ex
  exact ⟨f, fd, g, F.kp, F.bindsN hb, F.ok S len fun cdv A outer s H vs Q E hr hsp => hbody f cdv A outer s H vs Q E hr hsp, oc, od, osl, lk⟩
/-- a def that raises nothing -/
theorem mkP {R : List PyData → PyData → Prop} (h : Has K mg x st) (hb : BindsP x st ps) (S : FnScope N ps (defScope st)) (hn : ps.length = n)
    (hbody : ∀ (f : Addr) (cdv : Value) (A : Around) (outer : List Env) (s : Shared) (H : Hp) (E : XK), Room k (A.deeper (envOfC x (defScope st) s.heap.objs.size f cdv)) →
      ∃ t, PSs (cxOf CX0 P w K mg base N x (defScope st) f cdv A outer s H E).nox (defBody st) t ∧ BodyP N.length n R t) : Def P w K mg base CX0 (k + 1) x ps (spP n R) :=
  mk_def h hb S (fun vs H Q E z => (spP_len z).trans hn.symm) fun f cdv A outer s H vs Q E hr hsp => by
    obtain ⟨t, h1, h2⟩ := hbody f cdv A outer s H E hr
    exact ⟨t, h1.nox, spP_body (N := N) (fun ds d B Q hl hR q => h2 ds d B Q hl hR q) hsp⟩
end
section
variable {X : Cx} {j k : Nat} {x : Str} {ps : List Str} {sp : Sp} {p pos : Pos} {e : Expr} {es : List Expr} {t : TA} {E : XK}
theorem pe_callD (D : Def X.prog X.w X.K X.mg X.base CX0 j x ps sp) (hr : Room k X.A) (ha : PA X (e :: es) t) (hj : j ≤ k := by decide) (hg : Gl X x := by rfl) (hdb : (x == ("__debug__" : Str)) = false := by decide)
    (he : starEach (e :: es) X.env = (false, eval e X.env) :: starEach es X.env := by rfl) (hpl : (backTo pos (starEach es X.env)).any (·.1) = false := by rfl) : PE X (.Call (.Name x p) (e :: es) [] pos) (tCall sp [] E0 t) := by
  obtain ⟨f, fd, hm, hk, hb, F, _⟩ := D.ex
  exact pe_call F (hr.mono hj) hg hm hk hb .nil pass0 ha hdb he hpl
/-- of a def that may raise, where it is known that it does not -/
theorem pe_callD0 (D : Def X.prog X.w X.K X.mg X.base (L2.CX X.prog X.w) j x ps sp) (hr : Room k X.A) (ha : PA X (e :: es) t) (hj : j ≤ k := by decide) (hg : Gl X x := by rfl) (hdb : (x == ("__debug__" : Str)) = false := by decide)
    (he : starEach (e :: es) X.env = (false, eval e X.env) :: starEach es X.env := by rfl) (hpl : (backTo pos (starEach es X.env)).any (·.1) = false := by rfl) : PE X (.Call (.Name x p) (e :: es) [] pos) (tCall sp [] E0 t) := by
  obtain ⟨f, fd, hm, hk, hb, F, _⟩ := D.ex
  exact pe_call F (hr.mono hj) hg hm hk hb .nil passX0 ha hdb he hpl
/-- .. which leaves this def, too -/
theorem pe_callDX (D : Def X.prog X.w X.K X.mg X.base (L2.CX X.prog X.w) j x ps sp) (hr : Room k X.A) (tk : Takes X fun cls d _ H => E cls d H) (ha : PA X (e :: es) t) (hj : j ≤ k := by decide) (hg : Gl X x := by rfl) (hdb : (x == ("__debug__" : Str)) = false := by decide)
    (he : starEach (e :: es) X.env = (false, eval e X.env) :: starEach es X.env := by rfl) (hpl : (backTo pos (starEach es X.env)).any (·.1) = false := by rfl) : PE X (.Call (.Name x p) (e :: es) [] pos) (tCall sp [] E t) := by
  obtain ⟨f, fd, hm, hk, hb, F, _⟩ := D.ex
  exact pe_call F (hr.mono hj) hg hm hk hb .nil (passes_call tk fun _ _ _ _ h => h) ha hdb he hpl
/-- .. in a try's body -/
theorem pe_callDS {W : WX} (D : Def X.prog X.w X.K X.mg X.base (L2.CX X.prog X.w) j x ps sp) (hr : Room k X.A) (tk : Takes X W) (ha : PA X (e :: es) t) (hj : j ≤ k := by decide) (hg : Gl X x := by rfl) (hdb : (x == ("__debug__" : Str)) = false := by decide)
    (he : starEach (e :: es) X.env = (false, eval e X.env) :: starEach es X.env := by rfl) (hpl : (backTo pos (starEach es X.env)).any (·.1) = false := by rfl) : PE X (.Call (.Name x p) (e :: es) [] pos) (tCallS sp (WE W) t) := by
  obtain ⟨f, fd, hm, hk, hb, F, _⟩ := D.ex
  exact pe_callS F (hr.mono hj) hg hm hk hb (fun σ => passAt tk σ) ha hdb he hpl
theorem hu64 {A : Around} (hr : Room k A) : A.units + 64 < cLine := by have := hr.un; omega
theorem hu65 {A : Around} (hr : Room k A) : A.units + 65 < cLine := by have := hr.un; omega
theorem hu1 {A : Around} (hr : Room k A) : A.units + 1 < cLine := by have := hr.un; omega
end
end Ck

namespace Ck
open PySem PySem.Spec PyProof.Rows L2

section
variable {K : PySem.W.Frag} {Γ : List Sl} {ta tb te : TE} {x y z : PyData} {ds xs ys : List PyData} {b c : Bool} {i : Nat} {r : R2}
theorem RvN.d (h : RvN r x y ds) : RvD r x y (.list ds) := fun G H v u e rx ry Q q => h G H v u e rx ry Q fun a vs G' H' s h0 hg hh rr => q (.ref a) _ H' (s.give h0 hg hh) (.lst (.inl upd_same) (rr.up (Ex.new hg)))
theorem RcN.d {r : List V → Hp → VK → Prop} (h : RcN r xs ds) : RcD r xs (.list ds) := fun G H vs e rx Q q => h G H vs e rx Q fun a vs G' H' s h0 hg hh rr => q (.ref a) _ H' (s.give h0 hg hh) (.lst (.inl upd_same) (rr.up (Ex.new hg)))
theorem RsN.d {r : V → Option Int → Option Int → Hp → VK → Prop} {lo hi : Option Int} (h : RsN r x lo hi ds) : RsD r x lo hi (.list ds) := fun G H v e rx Q q => h G H v e rx Q fun a vs G' H' s h0 hg hh rr => q (.ref a) _ H' (s.give h0 hg hh) (.lst (.inl upd_same) (rr.up (Ex.new hg)))
variable {d : PyData}
theorem rv_modP {i j : Int} (c : 0 < j) : RvD (rI (fun _ j => 0 < j) fun i j => .int (i % j)) (.int i) (.int j) (.int (i % j)) := rv_I c fun _ => .int _
theorem rv_fdivP {i j : Int} (c : CDiv i j) : RvD (rI CDiv fun i j => .int (i / j)) (.int i) (.int j) (.int (i / j)) := rv_I c fun _ => .int _
theorem rv_gt {i j : Int} : RvD (rI0 fun i j => .bl (decide (j < i))) (.int i) (.int j) (.bool (decide (j < i))) := rv_I0 fun _ => .bl _
theorem rv_ge {i j : Int} : RvD (rI0 fun i j => .bl (decide (j ≤ i))) (.int i) (.int j) (.bool (decide (j ≤ i))) := rv_I0 fun _ => .bl _
theorem ru_neg {n : Int} : RuD (rU fun i => .int (-i)) (.int n) (.int (-n)) := fun G H v e rx Q q => by
  cases rx; exact ⟨n, rfl, q _ G H (Stp.rfl' e) (.int _)⟩

/-! shapes -/
structure Shp (n : Nat) (d : PyData) : Prop where
  lay : d.canLay0 = true
  dep : d.depth ≤ n
theorem Shp.sh {n : Nat} (h : Shp n d) (hn : n ≤ 64 := by decide) : SeqAt.shaped d = true := by
  unfold SeqAt.shaped
  rw [h.lay, decide_eq_true (Nat.le_trans h.dep hn)]; rfl
theorem Shp.mono {n m : Nat} (h : Shp n d) (hn : n ≤ m) : Shp m d := ⟨h.lay, Nat.le_trans h.dep hn⟩
theorem shp_int {n : Nat} {k : Int} : Shp n (.int k) := ⟨by simp [PyData.canLay0], by simp [PyData.depth]⟩
theorem shp_bool {n : Nat} {k : Bool} : Shp n (.bool k) := ⟨by simp [PyData.canLay0], by simp [PyData.depth]⟩
theorem shp_none {n : Nat} : Shp n .none := ⟨by simp [PyData.canLay0], by simp [PyData.depth]⟩
theorem shp_str {n : Nat} {k : Str} (h : PyData.strOk k = true) : Shp n (.str k) := ⟨by simp [PyData.canLay0, h], by simp [PyData.depth]⟩
theorem layAll_of : ∀ {ds : List PyData}, (∀ x ∈ ds, x.canLay0 = true) → PyData.canLayAll0 ds = true
  | [], _ => by simp [PyData.canLayAll0]
  | x :: xs, h => by
    simp only [PyData.canLayAll0, Bool.and_eq_true]
    exact ⟨h x List.mem_cons_self, layAll_of fun y hy => h y (List.mem_cons_of_mem _ hy)⟩
theorem depAll_of {n : Nat} : ∀ {ds : List PyData}, (∀ x ∈ ds, x.depth ≤ n) → PyData.depthAll ds ≤ n
  | [], _ => by simp [PyData.depthAll]
  | x :: xs, h => by
    simp only [PyData.depthAll]
    have h1 := h x List.mem_cons_self
    have h2 := depAll_of (n := n) fun y hy => h y (List.mem_cons_of_mem _ hy)
    omega
theorem shp_list {n : Nat} (h : ∀ x ∈ ds, Shp n x) : Shp (n + 1) (.list ds) := ⟨by simp only [PyData.canLay0]; exact layAll_of fun x hx => (h x hx).lay, by simp only [PyData.depth]; exact Nat.succ_le_succ (depAll_of fun x hx => (h x hx).dep)⟩
theorem shp_tuple {n : Nat} (h : ∀ x ∈ ds, Shp n x) : Shp (n + 1) (.tuple ds) := ⟨by simp only [PyData.canLay0]; exact layAll_of fun x hx => (h x hx).lay, by simp only [PyData.depth]; exact Nat.succ_le_succ (depAll_of fun x hx => (h x hx).dep)⟩
theorem shp_mem {n : Nat} {ds : List PyData} {y : PyData} (h : Shp n (.list ds)) (hy : y ∈ ds) : Shp n y := by
  obtain ⟨h1, h2⟩ := h
  simp only [PyData.canLay0] at h1
  simp only [PyData.depth] at h2
  have key : ∀ {ds : List PyData}, PyData.canLayAll0 ds = true → y ∈ ds → y.canLay0 = true ∧ y.depth ≤ PyData.depthAll ds := by
    intro ds
    induction ds with
    | nil => intro _ h; cases h
    | cons x xs ih =>
      intro h hy
      simp only [PyData.canLayAll0, Bool.and_eq_true] at h
      simp only [PyData.depthAll]
      rcases List.mem_cons.mp hy with rfl | hy
      · exact ⟨h.1, by omega⟩
      · have := ih h.2 hy
        exact ⟨this.1, by omega⟩
  have := key h1 hy
  exact ⟨this.1, by omega⟩
/-! eqv of scalars -/
theorem eqv_int {m n : Int} : PyData.eqv (.int m) (.int n) = decide (m = n) := by simp only [PyData.eqv, Bool.beq_eq_decide_eq]
theorem eqv_str {m n : Str} : PyData.eqv (.str m) (.str n) = decide (m = n) := by
  simp only [PyData.eqv]
  by_cases h : m = n
  · subst h; simp
  · rw [decide_eq_false h]; exact beq_eq_false_iff_ne.mpr h
theorem rv_eqI {m n : Int} : RvD (rEqD K) (.int m) (.int n) (.bool (decide (m = n))) := by
  have h := rv_eqD (K := K) (x := .int m) (y := .int n) (shp_int (n := 0)).sh (shp_int (n := 0)).sh
  rw [eqv_int] at h; exact h
theorem rv_neI {m n : Int} : RvD (rNeD K) (.int m) (.int n) (.bool (!decide (m = n))) := by
  have h := rv_neD (K := K) (x := .int m) (y := .int n) (shp_int (n := 0)).sh (shp_int (n := 0)).sh
  rw [eqv_int] at h; exact h
theorem rv_eqS {m n : Str} (h1 : PyData.strOk m = true) (h2 : PyData.strOk n = true) : RvD (rEqD K) (.str m) (.str n) (.bool (decide (m = n))) := by
  have h := rv_eqD (K := K) (x := .str m) (y := .str n) (shp_str (n := 0) h1).sh (shp_str (n := 0) h2).sh
  rw [eqv_str] at h; exact h
theorem rv_neS {m n : Str} (h1 : PyData.strOk m = true) (h2 : PyData.strOk n = true) : RvD (rNeD K) (.str m) (.str n) (.bool (!decide (m = n))) := by
  have h := rv_neD (K := K) (x := .str m) (y := .str n) (shp_str (n := 0) h1).sh (shp_str (n := 0) h2).sh
  rw [eqv_str] at h; exact h
theorem eqv_bool {m n : Bool} : PyData.eqv (.bool m) (.bool n) = (m == n) := by simp only [PyData.eqv]
theorem rv_eqB {m n : Bool} : RvD (rEqD K) (.bool m) (.bool n) (.bool (m == n)) := by
  have h := rv_eqD (K := K) (x := .bool m) (y := .bool n) (shp_bool (n := 0)).sh (shp_bool (n := 0)).sh
  rw [eqv_bool] at h; exact h
theorem rv_neB {m n : Bool} : RvD (rNeD K) (.bool m) (.bool n) (.bool (!(m == n))) := by
  have h := rv_neD (K := K) (x := .bool m) (y := .bool n) (shp_bool (n := 0)).sh (shp_bool (n := 0)).sh
  rw [eqv_bool] at h; exact h
/-- a list against [] -/
theorem eqv_nil {ds : List PyData} : PyData.eqv (.list ds) (.list []) = ds.isEmpty := by
  cases ds <;> simp [PyData.eqv, PyData.eqvAll]
theorem rv_eqNil (h : ∃ n, n ≤ 64 ∧ Shp n (.list ds)) : RvD (rEqD K) (.list ds) (.list []) (.bool ds.isEmpty) := by
  obtain ⟨n, hn, h⟩ := h
  have h := rv_eqD (K := K) (h.sh hn) (shp_list (n := 0) (ds := []) fun x hx => by cases hx).sh
  rw [eqv_nil] at h; exact h
theorem rv_neNil (h : ∃ n, n ≤ 64 ∧ Shp n (.list ds)) : RvD (rNeD K) (.list ds) (.list []) (.bool (!ds.isEmpty)) := by
  obtain ⟨n, hn, h⟩ := h
  have h := rv_neD (K := K) (h.sh hn) (shp_list (n := 0) (ds := []) fun x hx => by cases hx).sh
  rw [eqv_nil] at h; exact h

/-! isinstance -/
def isIntD : PyData → Bool | .int _ => true | .bool _ => true | _ => false
def isBoolD : PyData → Bool | .bool _ => true | _ => false
def isStrD : PyData → Bool | .str _ => true | _ => false
def isListD : PyData → Bool | .list _ => true | _ => false
def isTupD : PyData → Bool | .tuple _ => true | _ => false
def isDictD : PyData → Bool | .dict _ => true | _ => false
theorem k_Int (d : PyData) : kitB (tyNm d) "int" = some (isIntD d) := by
  cases d
  · exact (by decide +kernel : kitB "NoneType" "int" = some false)
  · exact (by decide +kernel : kitB "bool" "int" = some true)
  · exact (by decide +kernel : kitB "int" "int" = some true)
  · exact (by decide +kernel : kitB "str" "int" = some false)
  · exact (by decide +kernel : kitB "list" "int" = some false)
  · exact (by decide +kernel : kitB "tuple" "int" = some false)
  · exact (by decide +kernel : kitB "dict" "int" = some false)
theorem k_Bool (d : PyData) : kitB (tyNm d) "bool" = some (isBoolD d) := by
  cases d
  · exact (by decide +kernel : kitB "NoneType" "bool" = some false)
  · exact (by decide +kernel : kitB "bool" "bool" = some true)
  · exact (by decide +kernel : kitB "int" "bool" = some false)
  · exact (by decide +kernel : kitB "str" "bool" = some false)
  · exact (by decide +kernel : kitB "list" "bool" = some false)
  · exact (by decide +kernel : kitB "tuple" "bool" = some false)
  · exact (by decide +kernel : kitB "dict" "bool" = some false)
theorem k_Str (d : PyData) : kitB (tyNm d) "str" = some (isStrD d) := by
  cases d
  · exact (by decide +kernel : kitB "NoneType" "str" = some false)
  · exact (by decide +kernel : kitB "bool" "str" = some false)
  · exact (by decide +kernel : kitB "int" "str" = some false)
  · exact (by decide +kernel : kitB "str" "str" = some true)
  · exact (by decide +kernel : kitB "list" "str" = some false)
  · exact (by decide +kernel : kitB "tuple" "str" = some false)
  · exact (by decide +kernel : kitB "dict" "str" = some false)
theorem k_List (d : PyData) : kitB (tyNm d) "list" = some (isListD d) := by
  cases d
  · exact (by decide +kernel : kitB "NoneType" "list" = some false)
  · exact (by decide +kernel : kitB "bool" "list" = some false)
  · exact (by decide +kernel : kitB "int" "list" = some false)
  · exact (by decide +kernel : kitB "str" "list" = some false)
  · exact (by decide +kernel : kitB "list" "list" = some true)
  · exact (by decide +kernel : kitB "tuple" "list" = some false)
  · exact (by decide +kernel : kitB "dict" "list" = some false)
theorem k_Tup (d : PyData) : kitB (tyNm d) "tuple" = some (isTupD d) := by
  cases d
  · exact (by decide +kernel : kitB "NoneType" "tuple" = some false)
  · exact (by decide +kernel : kitB "bool" "tuple" = some false)
  · exact (by decide +kernel : kitB "int" "tuple" = some false)
  · exact (by decide +kernel : kitB "str" "tuple" = some false)
  · exact (by decide +kernel : kitB "list" "tuple" = some false)
  · exact (by decide +kernel : kitB "tuple" "tuple" = some true)
  · exact (by decide +kernel : kitB "dict" "tuple" = some false)
theorem k_Dict (d : PyData) : kitB (tyNm d) "dict" = some (isDictD d) := by
  cases d
  · exact (by decide +kernel : kitB "NoneType" "dict" = some false)
  · exact (by decide +kernel : kitB "bool" "dict" = some false)
  · exact (by decide +kernel : kitB "int" "dict" = some false)
  · exact (by decide +kernel : kitB "str" "dict" = some false)
  · exact (by decide +kernel : kitB "list" "dict" = some false)
  · exact (by decide +kernel : kitB "tuple" "dict" = some false)
  · exact (by decide +kernel : kitB "dict" "dict" = some true)
theorem ev_isiInt (h : Ev ta Γ d) : Ev (tCB (rIsi K) (tCons ta (tCons (tC (.ty "int")) tNil))) Γ (.bool (isIntD d)) := ev_isi h (k_Int d)
theorem ev_isiBool (h : Ev ta Γ d) : Ev (tCB (rIsi K) (tCons ta (tCons (tC (.ty "bool")) tNil))) Γ (.bool (isBoolD d)) := ev_isi h (k_Bool d)
theorem ev_isiStr (h : Ev ta Γ d) : Ev (tCB (rIsi K) (tCons ta (tCons (tC (.ty "str")) tNil))) Γ (.bool (isStrD d)) := ev_isi h (k_Str d)
theorem ev_isiList (h : Ev ta Γ d) : Ev (tCB (rIsi K) (tCons ta (tCons (tC (.ty "list")) tNil))) Γ (.bool (isListD d)) := ev_isi h (k_List d)
theorem ev_isiTup (h : Ev ta Γ d) : Ev (tCB (rIsi K) (tCons ta (tCons (tC (.ty "tuple")) tNil))) Γ (.bool (isTupD d)) := ev_isi h (k_Tup d)
theorem ev_isiDict (h : Ev ta Γ d) : Ev (tCB (rIsi K) (tCons ta (tCons (tC (.ty "dict")) tNil))) Γ (.bool (isDictD d)) := ev_isi h (k_Dict d)

/-! texts -/
def sg (c : Nat) : PyData := .str ⟨#[c]⟩
def signs (z : Str) : List PyData := z.cps.toList.map sg
theorem ei_str {z : Str} (h : Ev te Γ (.str z)) : EvI (iStr te) Γ (signs z) := fun B G σ H ok R q => h B G σ H ok _ fun v G1 H1 s1 r1 => by
  cases r1
  have hl : (signs z).length = z.cps.size := by simp [signs]
  refine ⟨z, rfl, q _ G1 H1 s1 ⟨fun H _ => ?_, fun i H hi _ => ?_, fun i H x H' d hd _ y => ?_⟩⟩
  · show z.cps.size ≤ _
    rw [hl]; exact Nat.le_refl _
  · show i < z.cps.size
    rw [hl] at hi; exact hi
  · obtain ⟨e1, c, hc, rfl⟩ := y
    unfold signs at hd
    rw [List.getElem?_map, Array.getElem?_toList, hc] at hd
    cases hd
    exact ⟨e1, .str _⟩
theorem rm_find {a c : Str} : RmD "str" (fun x xs H Q => ∃ a b, x = .str a ∧ xs = [.str b] ∧ Q (.int (Txt.find a b)) H) (.str a) [.str c] (.int (Txt.find a c)) := fun K G H v vs e rx => by
  cases rx
  refine ⟨fun _ _ => rfl, fun rv Q q => ?_⟩
  cases rv with
  | cons r1 r2 => cases r1; cases r2; exact ⟨a, c, rfl, rfl, q _ G H (Stp.rfl' e) (.int _)⟩
theorem rm_count {a c : Str} : RmD "str" (fun x xs H Q => ∃ a b, x = .str a ∧ xs = [.str b] ∧ Q (.int (Txt.count a b)) H) (.str a) [.str c] (.int (Txt.count a c)) := fun K G H v vs e rx => by
  cases rx
  refine ⟨fun _ _ => rfl, fun rv Q q => ?_⟩
  cases rv with
  | cons r1 r2 => cases r1; cases r2; exact ⟨a, c, rfl, rfl, q _ G H (Stp.rfl' e) (.int _)⟩
theorem rm_join {a : Str} {ys : List Str} (hz : (ys.map (·.length)).sum + ys.length * a.length ≤ 16777216) :
    RmD "str" (fun x xs H Q => ∃ a p, ∃ ys : List Str, x = .str a ∧ xs = [.ref p] ∧ (SqL K H p (ys.map V.str) ∨ SqT K H p (ys.map V.str)) ∧ (ys.map (·.length)).sum + ys.length * a.length ≤ 16777216 ∧ Q (.str (Txt.join a ys)) H) (.str a) [.list (ys.map .str)] (.str (Txt.join a ys)) := fun K' G H v vs e rx => by
  cases rx
  refine ⟨fun _ _ => rfl, fun rv Q q => ?_⟩
  cases rv with
  | cons r1 r2 =>
    cases r2
    cases r1 with
    | lst hd r =>
      have e1 := r.strs
      subst e1
      exact ⟨a, _, ys, rfl, rfl, .inl (rd_sql (e.rd hd)), hz, q _ G H (Stp.rfl' e) (.str _)⟩
end
/-! constants of the module -/
section
variable {X : Cx} {x : Str} {p : Pos}
theorem pe_gstr {z : Str} (h : ∃ t, X.mg x = some (.str z t)) (hg : Gl X x := by rfl) (hd : (x == ("__debug__" : Str)) = false := by decide) : PE X (.Name x p) (tC (.str z)) := by
  obtain ⟨t, h⟩ := h
  exact pe_glob hg h ⟨t, rfl⟩ hd
theorem pe_gint {z : Int} (h : ∃ t, X.mg x = some (.int z t)) (hg : Gl X x := by rfl) (hd : (x == ("__debug__" : Str)) = false := by decide) : PE X (.Name x p) (tC (.int z)) := by
  obtain ⟨t, h⟩ := h
  exact pe_glob hg h ⟨t, rfl⟩ hd
end
end Ck
namespace Ck
open PySem PySem.Spec PyProof.Rows L2
section
variable {Γ : List Sl} {te : TE} {t u : TT} {xs : List PyData} {b : Bool}
theorem ev_lst {t : TA} (h : EvA t Γ xs) (hl : xs.length ≤ sizeLine) : Ev (tLst t) Γ (.list xs) := (evN_lst h hl).ev
/-- a way that is not gone -/
theorem et_no (h : b = false) : b = true → EvT u Γ false := fun z => by rw [h] at z; cases z
theorem et_noO (h : b = true) : b = false → EvT u Γ true := fun z => by rw [h] at z; cases z
theorem ev_no (h : b = false) : b = true → Ev te Γ (.bool false) := fun z => by rw [h] at z; cases z
theorem ev_noO (h : b = true) : b = false → Ev te Γ (.bool true) := fun z => by rw [h] at z; cases z
end
theorem sz_dec {n : Nat} (h : n ≤ 100000) : n ≤ sizeLine := Nat.le_trans h (by decide)
end Ck
namespace Ck
open PySem PySem.Spec PyProof.Rows L2
theorem at_rt {B : Bs} {Γ : List Sl} {nx bk ct : L2.St → Hp → Prop} {rt : VK} {te : TE} {d d' : PyData} (h : Ev te Γ d) (e : d = d') (q : ∀ v G H, Stp B.g0 B.h0 G H → Rp G v d' → rt v H) : At B Γ (tRet te ⟨nx, rt, bk, ct⟩) := at_ret h (e ▸ q)
end Ck
namespace Ck
open PySem PySem.Spec PyProof.Rows L2
/-! the rules with the written part by its own letter (within a comprehension the reading may not lean on the block) -/
section
variable {X : Cx} (K : PySem.W.Frag)
theorem op_addK (hK : X.K = K := by rfl) : OpR X (binaryOp .Add) (rAddU K) := hK ▸ op_addU
theorem op_eqK (hu : X.A.units + 64 < cLine) (hK : X.K = K := by rfl) : OpR X (compareOp .Eq) (rEqD K) := hK ▸ op_eqD hu
theorem op_neK (hu : X.A.units + 64 < cLine) (hK : X.K = K := by rfl) : OpR X (compareOp .NotEq) (rNeD K) := hK ▸ op_neD hu
theorem op_inK (hu : X.A.units + 65 < cLine) (hK : X.K = K := by rfl) : OpR X (compareOp .In) (rInU K) := hK ▸ op_inU hu
theorem op_notInK (hu : X.A.units + 65 < cLine) (hK : X.K = K := by rfl) : OpR X (compareOp .NotIn) (rNotInU K) := hK ▸ op_notInU hu
theorem ix_K (hK : X.K = K := by rfl) : IxR X (rIx K) := hK ▸ ix_seq
theorem sl_K (hK : X.K = K := by rfl) : SlR X (rSlU K) := hK ▸ sl_U
theorem isi_K (hK : X.K = K := by rfl) : CallR X (.builtin "isinstance") (rIsi K) := hK ▸ call_isi
theorem len_K (hK : X.K = K := by rfl) : CallR X (.builtin "len") (rLenV K) := hK ▸ call_lenV
theorem list_K (hK : X.K = K := by rfl) : CallR X (.type "list") (rListV K) := hK ▸ call_listV
theorem sum_K (hc : X.calm = true) (hK : X.K = K := by rfl) : CallR X (.builtin "sum") (rSum K) := hK ▸ cr_sum hc
theorem max_K (hc : X.calm = true) (hK : X.K = K := by rfl) : CallR X (.builtin "max") (rMax K) := hK ▸ cr_max hc
theorem all_K (hc : X.calm = true) (hK : X.K = K := by rfl) : CallR X (.builtin "all") (rAll K) := hK ▸ cr_all hc
theorem sorted_K (hK : X.K = K := by rfl) : CallR X (.builtin "sorted") (rSorted K) := hK ▸ cr_sorted
theorem pi_listK {tg l : Expr} {tl : TE} (hl : PE X l tl) (hK : X.K = K := by rfl) : PI X tg l (iList K tl) := hK ▸ pi_list hl
theorem pi_tupK {tg l : Expr} {tl : TE} (hl : PE X l tl) (hK : X.K = K := by rfl) : PI X tg l (iTup K tl) := hK ▸ pi_tup hl
theorem pe_revLK {e : Expr} {te : TE} {k : Nat} {p1 p2 p3 pos : Pos} (he : PE X e te) (hK : X.K = K := by rfl) : PE X (.Subscript e (.Slice none none (some (.UnaryOp .USub (.Constant (.int 1) k p1) p2)) p3) pos) (tRevL K te) := hK ▸ pe_revL he
theorem pe_bmK {o e : Expr} {es : List Expr} {to : TE} {t : TA} {name : Str} {apos cpos : Pos} {T id : String} {r : V → List V → Hp → VK → Prop} (pa : PlainAttrs T) (slot : Slot T name id) (hty : typeOf (.builtin id) = pure (.type "method_descriptor")) (hm : MtR X id r) (ho : PE X o to) (ha : PA X (e :: es) t)
    (hK : X.K = K := by rfl) (hbase : attributeBase o name X.env (eval o X.env) = eval o X.env := by rfl)
    (hfew : ((backTo cpos (starEach (e :: es) X.env)).all (fun x => !x.1) && (backToKw cpos (keywordEach [] X.env)).all (fun x => x.1.isSome)
      && decide ((e :: es).length + ([] : List Keyword).length + (if ([] : List Keyword).isEmpty then 0 else 1) < 30)) = true := by rfl)
    (hline : (apos.endLine == cpos.line) = true := by rfl) (hs : starEach (e :: es) X.env = (false, eval e X.env) :: starEach es X.env := by rfl) (hplain : (backTo cpos (starEach es X.env)).any (·.1) = false := by rfl) :
    PE X (.Call (.Attribute o name apos) (e :: es) [] cpos) (tBM K T r to t) := hK ▸ pe_bm pa slot hty hm ho ha hbase hfew hline hs hplain
end
def rJoin (K : PySem.W.Frag) : V → List V → Hp → VK → Prop := fun x xs H Q => ∃ a p, ∃ ys : List Str, x = .str a ∧ xs = [.ref p] ∧ (SqL K H p (ys.map V.str) ∨ SqT K H p (ys.map V.str)) ∧ (ys.map (·.length)).sum + ys.length * a.length ≤ 16777216 ∧ Q (.str (Txt.join a ys)) H
def rFind : V → List V → Hp → VK → Prop := fun x xs H Q => ∃ a b, x = .str a ∧ xs = [.str b] ∧ Q (.int (Txt.find a b)) H
def rCount : V → List V → Hp → VK → Prop := fun x xs H Q => ∃ a b, x = .str a ∧ xs = [.str b] ∧ Q (.int (Txt.count a b)) H
section
variable {X : Cx} (K : PySem.W.Frag)
theorem mt_joinK (hK : X.K = K := by rfl) : MtR X "str.join" (rJoin K) := hK ▸ mt_join
theorem mt_findK : MtR X "str.find" rFind := mt_find
theorem mt_countK : MtR X "str.count" rCount := mt_count
theorem rm_findK {a c : Str} : RmD "str" rFind (.str a) [.str c] (.int (Txt.find a c)) := rm_find
theorem rm_countK {a c : Str} : RmD "str" rCount (.str a) [.str c] (.int (Txt.count a c)) := rm_count
theorem rm_joinK {a : Str} {ys : List Str} (hz : (ys.map (·.length)).sum + ys.length * a.length ≤ 16777216) : RmD "str" (rJoin K) (.str a) [.list (ys.map .str)] (.str (Txt.join a ys)) := rm_join hz
end
end Ck
namespace Ck
open PySem PySem.Spec PyProof.Rows L2
section
variable {K : PySem.W.Frag} {Γ : List Sl} {ta : TE} {d : PyData} {b : Bool}
theorem ev_isiIntB (h : Ev ta Γ d) (e : isIntD d = b) : Ev (tCB (rIsi K) (tCons ta (tCons (tC (.ty "int")) tNil))) Γ (.bool b) := e ▸ ev_isiInt h
theorem ev_isiBoolB (h : Ev ta Γ d) (e : isBoolD d = b) : Ev (tCB (rIsi K) (tCons ta (tCons (tC (.ty "bool")) tNil))) Γ (.bool b) := e ▸ ev_isiBool h
theorem ev_isiStrB (h : Ev ta Γ d) (e : isStrD d = b) : Ev (tCB (rIsi K) (tCons ta (tCons (tC (.ty "str")) tNil))) Γ (.bool b) := e ▸ ev_isiStr h
theorem ev_isiListB (h : Ev ta Γ d) (e : isListD d = b) : Ev (tCB (rIsi K) (tCons ta (tCons (tC (.ty "list")) tNil))) Γ (.bool b) := e ▸ ev_isiList h
theorem ev_isiTupB (h : Ev ta Γ d) (e : isTupD d = b) : Ev (tCB (rIsi K) (tCons ta (tCons (tC (.ty "tuple")) tNil))) Γ (.bool b) := e ▸ ev_isiTup h
theorem ev_isiDictB (h : Ev ta Γ d) (e : isDictD d = b) : Ev (tCB (rIsi K) (tCons ta (tCons (tC (.ty "dict")) tNil))) Γ (.bool b) := e ▸ ev_isiDict h
end
end Ck
namespace Ck
open PySem PySem.Spec PyProof.Rows L2
/-- over a range, the state by the turn -/
theorem at_forR {B : Bs} {Γ : List Sl} {nx bk ct : L2.St → Hp → Prop} {rt : VK} {t : TS} {j : Nat} {wi : TI} {lo : Int} {n : Nat} (I : Nat → List Sl) (hi : EvI wi Γ (rngD lo n)) (h0 : Wk (I 0) Γ)
    (hs : ∀ (gb : Hp) (i : Nat) (N : L2.St → Hp → Prop), i < n → At ⟨gb, B.g0, B.h0⟩ (I (i + 1)) N → At ⟨gb, B.g0, B.h0⟩ ((I i).set j (.d (.int (lo + i)))) (t ⟨N, rt, nx, N⟩))
    (he : At B (I n) nx) : At B Γ (tFor wi (gName j) t ⟨nx, rt, bk, ct⟩) := by
  exact at_for I (fun i => i ≤ n) hi h0 (Nat.zero_le _) (fun gb i d N hd hp hN => by
    have hl : i < n := by
      have := (List.getElem?_eq_some_iff.mp hd).1
      rw [rngD_length] at this; exact this
    rw [rngD_get lo n i hl] at hd
    cases hd
    exact hs gb i N hl (hN hl)) (fun _ => by rw [rngD_length]; exact he)
/-- over a list of encoded things -/
theorem at_forL {α : Type} (enc : α → PyData) (xs : List α) {B : Bs} {Γ : List Sl} {nx bk ct : L2.St → Hp → Prop} {rt : VK} {t : TS} {j : Nat} {wi : TI} (I : Nat → List Sl) (hi : EvI wi Γ (xs.map enc)) (h0 : Wk (I 0) Γ)
    (hs : ∀ (gb : Hp) (i : Nat) (x : α) (N : L2.St → Hp → Prop), xs[i]? = some x → At ⟨gb, B.g0, B.h0⟩ (I (i + 1)) N → At ⟨gb, B.g0, B.h0⟩ ((I i).set j (.d (enc x))) (t ⟨N, rt, nx, N⟩))
    (he : At B (I xs.length) nx) : At B Γ (tFor wi (gName j) t ⟨nx, rt, bk, ct⟩) :=
  at_for I (fun _ => True) hi h0 trivial (fun gb i d N hd _ hN => by
    rw [List.getElem?_map] at hd
    cases hx : xs[i]? with
    | none => rw [hx] at hd; cases hd
    | some x =>
      rw [hx] at hd
      cases hd
      exact hs gb i x N hx (hN trivial)) (fun _ => by rw [List.length_map]; exact he)
end Ck
namespace Ck
open PySem PySem.Spec PyProof.Rows L2
theorem ev_head {sp : Sp} {dvs : List V} {E : XK} {t : TA} {Γ : List Sl} {d : PyData} (h : Ev (tCall sp dvs E t) Γ d) : Ev (tCall sp dvs E t) Γ d := h
end Ck

namespace Ck
open PySem PySem.Spec PyProof.Rows L2
section
variable {Γ : List Sl} {ta tb tc : TE} {E : XK} {x y : PyData}
/-! ### is_number, is_key, is_deed -/
def isNumD (x : PyData) : Bool := isIntD x && !isBoolD x
def R_is_number (ds : List PyData) (d : PyData) : Prop := ∃ x, ds = [x] ∧ d = .bool (isNumD x)
theorem ev_is_number (h : Ev ta Γ x) : Ev (tCall (spP 1 R_is_number) [] E (tCons ta tNil)) Γ (.bool (isNumD x)) := ev_call (ea_cons h ea_nil) rfl ⟨x, rfl, rfl⟩
abbrev LETTERS : Str := "abcdefghijklmnopqrstuvwxyz"
theorem letters_list : LETTERS.cps.toList = List.range' 97 26 := by decide +kernel
theorem letters_mem (c : Nat) : c ∈ LETTERS.cps.toList ↔ 97 ≤ c ∧ c < 123 := by rw [letters_list, List.mem_range'_1]
def lowD (z : Str) : Bool := z.cps.toList.all fun c => decide (c ∈ LETTERS.cps.toList)
def isKeyS (z : Str) : Bool := decide (1 ≤ z.length) && (decide (z.length ≤ 8) && lowD z)
def isKeyD : PyData → Bool
  | .str z => isKeyS z
  | _ => false
/-- texts of a moderate size -/
def SzS : PyData → Prop
  | .str z => z.length ≤ 100000
  | _ => True
def R_is_key (ds : List PyData) (d : PyData) : Prop := ∃ x, ds = [x] ∧ SzS x ∧ d = .bool (isKeyD x)
theorem ev_is_key (h : Ev ta Γ x) (hs : SzS x) : Ev (tCall (spP 1 R_is_key) [] E (tCons ta tNil)) Γ (.bool (isKeyD x)) := ev_call (ea_cons h ea_nil) rfl ⟨x, rfl, hs, rfl⟩
theorem ev_is_numberB {b : Bool} (h : Ev ta Γ x) (e : isNumD x = b) : Ev (tCall (spP 1 R_is_number) [] E (tCons ta tNil)) Γ (.bool b) := e ▸ ev_is_number h
theorem ev_is_keyB {b : Bool} (h : Ev ta Γ x) (hs : SzS x) (e : isKeyD x = b) : Ev (tCall (spP 1 R_is_key) [] E (tCons ta tNil)) Γ (.bool b) := e ▸ ev_is_key h hs
theorem num_or (x : PyData) : (∃ i, x = .int i) ∨ isNumD x = false := by
  cases x with
  | int i => exact .inl ⟨i, rfl⟩
  | _ => exact .inr rfl
theorem str_or (x : PyData) : (∃ z, x = .str z) ∨ isStrD x = false := by
  cases x with
  | str z => exact .inl ⟨z, rfl⟩
  | _ => exact .inr rfl
def StrOkD : PyData → Prop
  | .str z => PyData.strOk z = true
  | _ => True
abbrev wPut : Str := "put"
abbrev wAdd : Str := "add"
abbrev wOnce : Str := "once"
abbrev wAway : Str := "away"
def isWordS (w : Str) (v : Int) : Bool := (w == wPut || (w == wAdd || w == wOnce)) || (decide (w = wAway) && decide (v = 0))
def isDeed5 : PyData → PyData → PyData → PyData → PyData → Bool
  | .int a, .int t, .str w, k, .int v => decide (0 ≤ a) && decide (a ≤ 9) && decide (1 ≤ t) && isKeyD k && isWordS w v
  | _, _, _, _, _ => false
def isDeedD : PyData → Bool
  | .tuple [a, t, w, k, v] => isDeed5 a t w k v
  | _ => false
/-- of what may be asked whether it is a deed: no long texts, no odd signs -/
def DeedSz : PyData → Prop
  | .tuple ds => ∀ x ∈ ds, SzS x ∧ StrOkD x
  | _ => True
def R_is_deed (ds : List PyData) (d : PyData) : Prop := ∃ x, ds = [x] ∧ DeedSz x ∧ d = .bool (isDeedD x)
theorem ev_is_deed (h : Ev ta Γ x) (hs : DeedSz x) : Ev (tCall (spP 1 R_is_deed) [] E (tCons ta tNil)) Γ (.bool (isDeedD x)) := ev_call (ea_cons h ea_nil) rfl ⟨x, rfl, hs, rfl⟩
theorem ev_is_deedB {b : Bool} (h : Ev ta Γ x) (hs : DeedSz x) (e : isDeedD x = b) : Ev (tCall (spP 1 R_is_deed) [] E (tCons ta tNil)) Γ (.bool b) := e ▸ ev_is_deed h hs
theorem tup_or (x : PyData) : (∃ a t w k v, x = .tuple [a, t, w, k, v]) ∨ (∃ ds, x = .tuple ds ∧ ds.length ≠ 5) ∨ isTupD x = false := by
  cases x with
  | tuple ds =>
    by_cases h : ds.length = 5
    · match ds, h with
      | [a, t, w, k, v], _ => exact .inl ⟨a, t, w, k, v, rfl⟩
    · exact .inr (.inl ⟨ds, rfl, h⟩)
  | _ => exact .inr (.inr rfl)
theorem isDeed_len {ds : List PyData} (h : ds.length ≠ 5) : isDeedD (.tuple ds) = false := by
  unfold isDeedD
  split
  · rename_i e; cases e; exact absurd rfl h
  · rfl
theorem isDeed_tup {x : PyData} (h : isTupD x = false) : isDeedD x = false := by
  cases x with
  | tuple ds => cases h
  | _ => rfl
theorem isDeed5_a {a t w k v : PyData} (h : isNumD a = false) : isDeed5 a t w k v = false := by
  cases a with
  | int i => cases h
  | _ => rfl
theorem isDeed5_t {a t w k v : PyData} (h : isNumD t = false) : isDeed5 a t w k v = false := by
  cases t with
  | int i => cases h
  | _ => cases a <;> rfl
theorem isDeed5_v {a t w k v : PyData} (h : isNumD v = false) : isDeed5 a t w k v = false := by
  cases v with
  | int i => cases h
  | _ => cases a <;> cases t <;> cases w <;> rfl
theorem isDeed5_w {a t w k v : PyData} (h : isStrD w = false) : isDeed5 a t w k v = false := by
  cases w with
  | str i => cases h
  | _ => cases a <;> cases t <;> rfl
theorem isDeed5_no {ai ti : Int} {w k v : PyData} (h : ai < 0 ∨ 9 < ai ∨ ti < 1) : isDeed5 (.int ai) (.int ti) w k v = false := by
  cases w <;> cases v <;> try rfl
  show (decide (0 ≤ ai) && decide (ai ≤ 9) && decide (1 ≤ ti) && isKeyD k && isWordS _ _) = false
  rcases h with h | h | h
  · rw [decide_eq_false (p := 0 ≤ ai) (by omega)]; rfl
  · rw [decide_eq_false (p := ai ≤ 9) (by omega), Bool.and_false]; rfl
  · rw [decide_eq_false (p := 1 ≤ ti) (by omega), Bool.and_false]; rfl
theorem isDeed5_k {a t v : PyData} {ws : Str} {k : PyData} (h : isKeyD k = false) : isDeed5 a t (.str ws) k v = false := by
  cases a <;> cases t <;> cases v <;> try rfl
  show (_ && isKeyD k && isWordS _ _) = false
  rw [h, Bool.and_false]; rfl
theorem isDeed5_w1 {ai ti vi : Int} {ws : Str} {k : PyData} (h : ¬ ai < 0 ∧ ¬ 9 < ai ∧ ¬ ti < 1) (hk : isKeyD k = true) : isDeed5 (.int ai) (.int ti) (.str ws) k (.int vi) = isWordS ws vi := by
  show (decide (0 ≤ ai) && decide (ai ≤ 9) && decide (1 ≤ ti) && isKeyD k && isWordS _ _) = _
  rw [hk, decide_eq_true (p := 0 ≤ ai) (by omega), decide_eq_true (p := ai ≤ 9) (by omega), decide_eq_true (p := 1 ≤ ti) (by omega)]
  rfl
theorem isWordS_eq (w : Str) (v : Int) : (([PyData.str wPut, .str wAdd, .str wOnce].any fun y => eqS y (.str w)) || (decide (w = wAway) && decide (v = 0))) = isWordS w v := by
  unfold isWordS
  simp only [List.any_cons, List.any_nil, Bool.or_false, eqS]
  have e : ∀ z : Str, (z == w) = (w == z) := fun z => by
    by_cases h : z = w
    · subst h; rfl
    · rw [beq_eq_false_iff_ne.mpr h, beq_eq_false_iff_ne.mpr (Ne.symm h)]
  rw [e, e, e]
end
end Ck

namespace Ck
open PySem PySem.Spec PyProof.Rows L2
section
variable {Γ : List Sl} {ta tb tc : TE} {E : XK} {x y : PyData}
/-! ### the script's cells, the mixing -/
abbrev scr (ns : List Int) : PyData := .list (ns.map PyData.int)
def cellAt (ns : List Int) (k : Int) : Int := ns.getD k.toNat 0
def R_cell_at (ds : List PyData) (d : PyData) : Prop := ∃ (ns : List Int) (k : Int), ds = [scr ns, .int k] ∧ 0 ≤ k ∧ d = .int (cellAt ns k)
theorem ev_cell_at {ns : List Int} {k : Int} (h : Ev ta Γ (scr ns)) (hk : Ev tb Γ (.int k)) (h0 : 0 ≤ k) : Ev (tCall (spP 2 R_cell_at) [] E (tCons ta (tCons tb tNil))) Γ (.int (cellAt ns k)) :=
  ev_call (ea_cons h (ea_cons hk ea_nil)) rfl ⟨ns, k, rfl, h0, rfl⟩
def mix1 (c k : Int) : Int := (c * 48271 + k * 7919 + 1) % 1000003
def mixed (c k : Int) : Int := mix1 c k * (mix1 c k + 2 * k + 5) % 999983
theorem mix1_lo (c k : Int) : 0 ≤ mix1 c k := Int.emod_nonneg _ (by decide)
theorem mix1_hi (c k : Int) : mix1 c k < 1000003 := Int.emod_lt_of_pos _ (by decide)
theorem mixed_lo (c k : Int) : 0 ≤ mixed c k := Int.emod_nonneg _ (by decide)
theorem mixed_hi (c k : Int) : mixed c k < 999983 := Int.emod_lt_of_pos _ (by decide)
def R_mixed (ds : List PyData) (d : PyData) : Prop := ∃ c k, ds = [.int c, .int k] ∧ d = .int (mixed c k)
theorem ev_mixed {c k : Int} (h : Ev ta Γ (.int c)) (hk : Ev tb Γ (.int k)) : Ev (tCall (spP 2 R_mixed) [] E (tCons ta (tCons tb tNil))) Γ (.int (mixed c k)) :=
  ev_call (ea_cons h (ea_cons hk ea_nil)) rfl ⟨c, k, rfl, rfl⟩
/-! ### atI -/
theorem ixN_of {n i : Nat} (h : i < n) : ixN n (i : Int) = some i := by
  unfold ixN
  rw [if_pos (by omega), if_pos (by omega)]; simp
theorem atI_of {α : Type} {xs : List α} {i : Nat} {x : α} (h : xs[i]? = some x) : atI xs (i : Int) = some x := by
  unfold atI
  rw [ixN_of (List.getElem?_eq_some_iff.mp h).1]
  exact h
theorem atI_int {α : Type} {xs : List α} {i : Int} {x : α} (h0 : 0 ≤ i) (h : xs[i.toNat]? = some x) : atI xs i = some x := by
  have := atI_of h
  rw [Int.toNat_of_nonneg h0] at this
  exact this
theorem ixN_int {n : Nat} {i : Int} (h0 : 0 ≤ i) (h : i < n) : ixN n i = some i.toNat := by
  unfold ixN
  rw [if_pos h0, if_pos h]
theorem atI_map {α β : Type} {f : α → β} {xs : List α} {i : Int} {x : α} (h : atI xs i = some x) : atI (xs.map f) i = some (f x) := by
  unfold atI at h ⊢
  rw [List.length_map]
  obtain ⟨j, hj, hx⟩ := Option.bind_eq_some_iff.mp h
  rw [hj]
  show (xs.map f)[j]? = _
  rw [List.getElem?_map, hx]; rfl
theorem atI_neg1 {α : Type} {xs : List α} {x : α} (h : xs.getLast? = some x) : atI xs (-1) = some x := by
  cases xs with
  | nil => cases h
  | cons a r =>
    unfold atI ixN
    rw [if_neg (by decide), if_pos (by simp; omega)]
    show (a :: r)[(-1 + ((a :: r).length : Int)).toNat]? = _
    rw [show (-1 + ((a :: r).length : Int)).toNat = (a :: r).length - 1 by (simp only [List.length_cons]; omega), ← List.getLast?_eq_getElem?]
    exact h
theorem cellAt_get {ns : List Int} {k : Int} (h : k.toNat < ns.length) : ns[k.toNat]? = some (cellAt ns k) := by
  unfold cellAt
  rw [List.getD_eq_getElem?_getD, List.getElem?_eq_getElem h]; rfl
theorem cellAt_no {ns : List Int} {k : Int} (h : ¬ k.toNat < ns.length) : cellAt ns k = 0 := by
  unfold cellAt
  rw [List.getD_eq_getElem?_getD, List.getElem?_eq_none (by omega)]; rfl
/-! ### one sign counted -/
theorem count_in : ∀ c ∈ List.range' 97 26, Txt.count LETTERS ⟨#[c]⟩ = 1 := by decide +kernel
theorem count_out {c : Nat} (h : c ∉ LETTERS.cps.toList) : Txt.count LETTERS ⟨#[c]⟩ = 0 := by
  obtain ⟨f, hc⟩ := PySem.StrLaws.occ_chain LETTERS ⟨#[c]⟩ (LETTERS.length + 1)
  unfold Txt.count
  cases e : Builtin.Str.occurrences LETTERS ⟨#[c]⟩ 0 LETTERS.length (LETTERS.length + 1) with
  | nil => rfl
  | cons i r =>
    exfalso
    rw [e] at hc
    have hf := PySem.StrLaws.found_one LETTERS c
    have hn : (!(Builtin.Str.occurrences LETTERS ⟨#[c]⟩ 0 LETTERS.length 1).isEmpty) = true := by
      rw [PySem.StrLaws.found_iff]
      exact ⟨i, hc.2.1⟩
    rw [hn] at hf
    exact h (of_decide_eq_true hf.symm)
theorem count_eq (c : Nat) : decide (Txt.count LETTERS ⟨#[c]⟩ = 1) = decide (c ∈ LETTERS.cps.toList) := by
  by_cases h : c ∈ LETTERS.cps.toList
  · rw [decide_eq_true h]
    rw [letters_list] at h
    rw [count_in c h]; rfl
  · rw [decide_eq_false h, count_out h]; rfl
/-! ### picking from a written list -/
theorem pick {xs : List PyData} {i : Int} (h0 : 0 ≤ i) (h : i < xs.length) : ∃ x, x ∈ xs ∧ atI xs i = some x := by
  have hl : i.toNat < xs.length := by omega
  exact ⟨xs[i.toNat], List.getElem_mem hl, atI_int h0 (List.getElem?_eq_getElem hl)⟩
theorem pickS {z : Str} {i : Int} (h0 : 0 ≤ i) (h : i < z.length) : ∃ c, c ∈ z.cps.toList ∧ atI z.cps.toList i = some c := by
  have hl : i.toNat < z.cps.toList.length := by simp [Str.length] at h ⊢; omega
  exact ⟨z.cps.toList[i.toNat], List.getElem_mem hl, atI_int h0 (List.getElem?_eq_getElem hl)⟩
theorem strOk_app {a b : Str} (ha : PyData.strOk a = true) (hb : PyData.strOk b = true) : PyData.strOk (a ++ b) = true := by
  unfold PyData.strOk at *
  rw [PySem.Str.cps_append, Array.all_append, ha, hb]; rfl
theorem strOk_one {c : Nat} (h : c < 0x110000) : PyData.strOk ⟨#[c]⟩ = true := by
  unfold PyData.strOk
  simp [h]
theorem strOk_mem {z : Str} (h : PyData.strOk z = true) {c : Nat} (hc : c ∈ z.cps.toList) : c < 0x110000 := by
  unfold PyData.strOk at h
  rw [Array.all_eq_true_iff_forall_mem] at h
  have := h c (by simpa using hc)
  simpa using this
theorem cutG_take {α : Type} {xs : List α} {i : Int} (h0 : 0 ≤ i) (h : i ≤ xs.length) : cutG xs none (some i) = xs.take i.toNat := by
  obtain ⟨k, rfl⟩ := Int.eq_ofNat_of_zero_le h0
  have h' : k ≤ xs.length := by omega
  unfold cutG
  rw [HT.sIx_none, HT.sIx_nat, List.drop_zero, Nat.sub_zero, Nat.min_eq_left h']; simp
theorem cutG_drop {α : Type} {xs : List α} {i : Int} (h0 : 0 ≤ i) (h : i ≤ xs.length) : cutG xs (some i) none = xs.drop i.toNat := by
  obtain ⟨k, rfl⟩ := Int.eq_ofNat_of_zero_le h0
  have h' : k ≤ xs.length := by omega
  unfold cutG
  rw [HT.sIx_none, HT.sIx_nat, Nat.min_eq_left h', Int.toNat_natCast]
  exact List.take_of_length_le (by rw [List.length_drop]; exact Nat.le_refl _)
theorem cutG_mid {α : Type} {xs : List α} {i j : Int} (h0 : 0 ≤ i) (h1 : 0 ≤ j) : cutG xs (some i) (some j) = (xs.take j.toNat).drop i.toNat := by
  obtain ⟨k, rfl⟩ := Int.eq_ofNat_of_zero_le h0
  obtain ⟨l, rfl⟩ := Int.eq_ofNat_of_zero_le h1
  unfold cutG
  rw [HT.sIx_nat, HT.sIx_nat, Int.toNat_natCast, Int.toNat_natCast, ← List.drop_take]
  have e1 : xs.take (min l xs.length) = xs.take l := by
    by_cases hl : l ≤ xs.length
    · rw [Nat.min_eq_left hl]
    · rw [Nat.min_eq_right (by omega), List.take_length, List.take_of_length_le (by omega)]
  rw [e1]
  by_cases hk : k ≤ xs.length
  · rw [Nat.min_eq_left hk]
  · have hlen : (xs.take l).length ≤ xs.length := by rw [List.length_take]; omega
    rw [Nat.min_eq_right (by omega), List.drop_eq_nil_of_le hlen, List.drop_eq_nil_of_le (by omega)]
end
end Ck

namespace Ck
open PySem PySem.Spec PyProof.Rows L2

/-! ### outcomes: a value, or the name of a class -/
abbrev Oc := Except Str PyData
abbrev RtO (B : Bs) (Q : VK) (d : PyData) : Prop := ∀ v f G H, Stp B.g0 B.h0 G H → Ro G H v d f → f.Nodup → (∀ a ∈ f, B.h0 a = none ∧ G a = none) → Q v H
abbrev WK := Bs → VK → PyData → Prop
def OcW (W : WK) (K : PySem.W.Frag) (B : Bs) (Q : VK) (E : XK) : Oc → Prop
  | .ok d => W B Q d
  | .error c => ∀ G H, Stp B.g0 B.h0 G H → E (.ref (He.ga K c)) none H
def spW (W : WK) (K : PySem.W.Frag) (n : Nat) (R : List PyData → Oc → Prop) : Sp := fun vs H Q E => ∃ ds o G, Ex G H ∧ Rps G vs ds ∧ ds.length = n ∧ R ds o ∧ OcW W K ⟨G, G, H⟩ Q E o
abbrev WD : WK := RtOk
abbrev WO : WK := RtO
theorem spW_len {W : WK} {K : PySem.W.Frag} {n : Nat} {R : List PyData → Oc → Prop} {vs : List V} {H : Hp} {Q : VK} {E : XK} (h : spW W K n R vs H Q E) : vs.length = n := by
  obtain ⟨ds, d, G, _, r, l, _⟩ := h
  rw [r.length]; exact l
abbrev BodyW (W : WK) (K : PySem.W.Frag) (N n : Nat) (R : List PyData → Oc → Prop) (E : XK) (t : TS) : Prop := ∀ (ds : List PyData) (o : Oc) (B : Bs) (Q : VK), ds.length = n → R ds o → OcW W K B Q E o → At B (sls N ds) (t { nx := fun _ H' => Q .non H', rt := Q })
section
variable {P : Program} {w : World} {K : PySem.W.Frag} {mg : Str → Option Value} {base : Heap} {x : Str} {st : Stmt} {N ps : List Str} {k n : Nat} {W : WK} {R : List PyData → Oc → Prop}
/-- a def that may raise -/
theorem mkX (h : Has K mg x st) (hb : BindsP x st ps) (S : FnScope N ps (defScope st)) (hn : ps.length = n)
    (hbody : ∀ (f : Addr) (cdv : Value) (A : Around) (outer : List Env) (s : Shared) (H : Hp) (E : XK), Room k (A.deeper (envOfC x (defScope st) s.heap.objs.size f cdv)) →
      ∃ t, PSs (cxOf (L2.CX P w) P w K mg base N x (defScope st) f cdv A outer s H E) (defBody st) t ∧ BodyW W K N.length n R E t) : Def P w K mg base (L2.CX P w) (k + 1) x ps (spW W K n R) :=
  mk_def h hb S (fun vs H Q E z => (spW_len z).trans hn.symm) fun f cdv A outer s H vs Q E hr hsp => by
    obtain ⟨t, h1, h2⟩ := hbody f cdv A outer s H E hr
    obtain ⟨ds, o, G, e, r, l, hR, q⟩ := hsp
    exact ⟨t, h1, h2 ds o ⟨G, G, H⟩ Q l hR q G _ H (ok_start e r)⟩
/-- .. that does not -/
theorem mkW (h : Has K mg x st) (hb : BindsP x st ps) (S : FnScope N ps (defScope st)) (hn : ps.length = n)
    (hbody : ∀ (f : Addr) (cdv : Value) (A : Around) (outer : List Env) (s : Shared) (H : Hp) (E : XK), Room k (A.deeper (envOfC x (defScope st) s.heap.objs.size f cdv)) →
      ∃ t, PSs (cxOf CX0 P w K mg base N x (defScope st) f cdv A outer s H E).nox (defBody st) t ∧ BodyW W K N.length n R E t) : Def P w K mg base CX0 (k + 1) x ps (spW W K n R) :=
  mk_def h hb S (fun vs H Q E z => (spW_len z).trans hn.symm) fun f cdv A outer s H vs Q E hr hsp => by
    obtain ⟨t, h1, h2⟩ := hbody f cdv A outer s H E hr
    obtain ⟨ds, o, G, e, r, l, hR, q⟩ := hsp
    exact ⟨t, h1.nox, h2 ds o ⟨G, G, H⟩ Q l hR q G _ H (ok_start e r)⟩
/-- one that is not called -/
theorem mkF {CX : CXT} (h : Has K mg x st) (hb : BindsP x st ps) (S : FnScope N ps (defScope st)) : Def P w K mg base CX (k + 1) x ps (fun _ _ _ _ => False) :=
  mk_def h hb S (fun vs H Q E z => z.elim) fun f cdv A outer s H vs Q E hr hsp => hsp.elim
end

section
variable {K : PySem.W.Frag} {B : Bs} {Γ : List Sl} {nx bk ct : L2.St → Hp → Prop} {rt : VK} {t u : TS} {te : TE} {ta : TA} {tt : TT} {d : PyData} {ds : List PyData} {i j n : Nat} {R : List PyData → Oc → Prop} {E : XK} {W : WK} {c : Str} {S : List Nat} {D : Ends} {k : L2.St → Hp → Prop}
/-- what leaves the def -/
abbrev Xq (K : PySem.W.Frag) (B : Bs) (E : XK) (c : Str) : Prop := ∀ G H, Stp B.g0 B.h0 G H → E (.ref (He.ga K c)) none H
theorem ev_callW (h : EvA ta Γ ds) (hn : ds.length = n) (hR : R ds (.ok d)) : Ev (tCall (spW WD K n R) [] E ta) Γ d := fun B G σ H ok Q q =>
  h B G σ H ok _ fun vs G1 H1 s1 r1 => by
    rw [List.append_nil]
    exact ⟨ds, .ok d, G1, s1.gh, r1, hn, hR, fun v G' H' s r => q v G' H' (s1.tr s) r⟩
theorem em_callW (h : EvA ta Γ ds) (hn : ds.length = n) (hR : R ds (.ok d)) : EvM (tCall (spW WO K n R) [] E ta) Γ [] d := fun B G σ H F k Q q =>
  h B G σ H ⟨F, k⟩ _ fun vs G1 H1 s1 r1 => by
    rw [List.append_nil]
    exact ⟨ds, .ok d, G1, s1.gh, r1, hn, hR, fun v f G' H' s r nd m => q v f G' H' (s1.tr s) r nd fun a ha => ⟨(m a ha).2, .inl (s1.h.no (m a ha).1)⟩⟩
theorem ev_callWS {Wx : WX} (h : EvA ta Γ ds) (hn : ds.length = n) (hR : R ds (.ok d)) : Ev (tCallS (spW WD K n R) (WE Wx) ta) Γ d := fun B G σ H ok Q q =>
  h B G σ H ok _ fun vs G1 H1 s1 r1 => ⟨ds, .ok d, G1, s1.gh, r1, hn, hR, fun v G' H' s r => q v G' H' (s1.tr s) r⟩
theorem em_callWS {Wx : WX} (h : EvA ta Γ ds) (hn : ds.length = n) (hR : R ds (.ok d)) : EvM (tCallS (spW WO K n R) (WE Wx) ta) Γ [] d := fun B G σ H F k Q q =>
  h B G σ H ⟨F, k⟩ _ fun vs G1 H1 s1 r1 => ⟨ds, .ok d, G1, s1.gh, r1, hn, hR, fun v f G' H' s r nd m => q v f G' H' (s1.tr s) r nd fun a ha => ⟨(m a ha).2, .inl (s1.h.no (m a ha).1)⟩⟩
/-- an expression that raises -/
def Rz (te : TE) (Γ : List Sl) (X : L2.St → Hp → Prop) : Prop := ∀ (B : Bs) (G : Hp) (σ : L2.St) (H : Hp), Ok B G σ H Γ → (∀ G' H', Stp G H G' H' → X σ H') → ∀ Q, te σ H Q
theorem rz_callW (h : EvA ta Γ ds) (hn : ds.length = n) (hR : R ds (.error c)) : Rz (tCall (spW W K n R) [] E ta) Γ (fun _ H => E (.ref (He.ga K c)) none H) := fun B G σ H ok x Q =>
  h B G σ H ok _ fun vs G1 H1 s1 r1 => by
    rw [List.append_nil]
    exact ⟨ds, .error c, G1, s1.gh, r1, hn, hR, fun G' H' s => x G' H' (s1.tr s)⟩
theorem rz_callWS {Wx : WX} (h : EvA ta Γ ds) (hn : ds.length = n) (hR : R ds (.error c)) : Rz (tCallS (spW W K n R) (WE Wx) ta) Γ (fun σ H => Wx (.ref (He.ga K c)) none σ H) := fun B G σ H ok x Q =>
  h B G σ H ok _ fun vs G1 H1 s1 r1 => ⟨ds, .error c, G1, s1.gh, r1, hn, hR, fun G' H' s => x G' H' (s1.tr s)⟩
theorem Rz.at {X : L2.St → Hp → Prop} {f : VK → L2.St → VK} (h : Rz te Γ X) (q : At B Γ X) (hk : ∀ σ H, (∀ Q, te σ H Q) → k σ H) : At B Γ k := fun G σ H ok =>
  hk σ H (h B G σ H ok fun G' H' s => q G' σ H' (ok.step s))
theorem at_rzDrop {X : L2.St → Hp → Prop} (h : Rz te Γ X) (q : At B Γ X) : At B Γ (tDrop te D) := fun G σ H ok => h B G σ H ok (fun G' H' s => q G' σ H' (ok.step s)) _
theorem at_rzSet {X : L2.St → Hp → Prop} (h : Rz te Γ X) (q : At B Γ X) : At B Γ (tAsg te (gName i) D) := fun G σ H ok => h B G σ H ok (fun G' H' s => q G' σ H' (ok.step s)) _
theorem at_rzRet {X : L2.St → Hp → Prop} (h : Rz te Γ X) (q : At B Γ X) : At B Γ (tRet te D) := fun G σ H ok => h B G σ H ok (fun G' H' s => q G' σ H' (ok.step s)) _
theorem rz_arg {r : TA} {sp : Sp} {X : L2.St → Hp → Prop} (h : Rz te Γ X) : Rz (tCall sp [] E (tCons te r)) Γ X := fun B G σ H ok x Q => h B G σ H ok x _
theorem at_xq (h : Xq K B E c) : At B Γ (fun _ H => E (.ref (He.ga K c)) none H) := fun G σ H ok => h G H ok.st
/-- ends of a def's value -/
theorem at_rtO (h : EvM te Γ S d) {d' : PyData} (e : d = d') (q : RtO B rt d') : At B Γ (tRet te ⟨nx, rt, bk, ct⟩) := at_retO h (e ▸ q)
/-- what is one's own, given away as mere data -/
theorem at_rtM (h : EvM te Γ S d) {d' : PyData} (e : d = d') (q : RtOk B rt d') : At B Γ (tRet te ⟨nx, rt, bk, ct⟩) := by
  subst e
  exact at_retO h fun v f G H s r nd m => by
    have st := s.giveL f m
    exact q v _ H st.1 (r.rp st.2.1 _ _ _ st.2.2)
theorem rtO_of (q : RtOk B rt d) : RtO B rt d := fun v f G H s r nd m => by
  have st := s.giveL f m
  exact q v _ H st.1 (r.rp st.2.1 _ _ _ st.2.2)
/-! exceptions that are caught -/
theorem takes0 {X : Cx} : Takes X (fun _ _ _ _ => False) := fun u s' ⟨_, _, _, _, _, _, _, _, _, _, _, _, _, _, _, _, w⟩ => w.elim
theorem at_wAs {cv cls : Value} {dd : Option Addr} {ts : Addr → Value → Option Addr → TS} {Wout : WX} (hm : PySem.W.exmOne K cls cv = some true)
    (q : ∀ a, At B (Γ.set i (.ex a)) (ts a cls dd { nx := fun σ' H' => nx (σ'.set i none) H', rt := rt, bk := fun σ' H' => bk (σ'.set i none) H', ct := fun σ' H' => ct (σ'.set i none) H' })) :
    At B Γ (fun σ H => wAs K cv i ts Wout ⟨nx, rt, bk, ct⟩ cls dd σ H) := fun G σ H ok => ⟨true, hm, fun _ a _ => q a G _ H (ok.setE i a), fun z => by cases z⟩
theorem at_unE {Γ' : List Sl} (q : At B Γ' k) (h : ∃ Γ2 : List Sl, Γ.set i .un = Γ') : At B Γ (fun σ H => k (σ.set i none) H) := fun G σ H ok => by
  obtain ⟨_, e⟩ := h
  exact q G _ H (e ▸ ok.setU i none)
theorem at_wMany_hit {cv cls : Value} {dd : Option Addr} {ts : Addr → Value → Option Addr → TS} {l : List (Value × (Addr → Value → Option Addr → TS))} {Wout : WX} (hm : PySem.W.exmOne K cls cv = some true) (q : ∀ a, At B Γ (ts a cls dd D)) :
    At B Γ (fun σ H => wMany K Wout D ((cv, ts) :: l) cls dd σ H) := fun G σ H ok => ⟨true, hm, fun _ a _ => q a G _ H ok, fun z => by cases z⟩
theorem at_wMany_miss {cv cls : Value} {dd : Option Addr} {ts : Addr → Value → Option Addr → TS} {l : List (Value × (Addr → Value → Option Addr → TS))} {Wout : WX} (hm : PySem.W.exmOne K cls cv = some false) (q : At B Γ (fun σ H => wMany K Wout D l cls dd σ H)) :
    At B Γ (fun σ H => wMany K Wout D ((cv, ts) :: l) cls dd σ H) := fun G σ H ok => ⟨false, hm, fun z => (by cases z), fun _ => q G _ H ok⟩
theorem at_wMany_end {cls : Value} {dd : Option Addr} {Wout : WX} (q : At B Γ (fun σ H => Wout cls dd σ H)) : At B Γ (fun σ H => wMany K Wout D [] cls dd σ H) := q
end
/-! the classes in an except suite -/
theorem pss_cls {X : Cx} {b : List Stmt} {cls : Value} {d : Option Addr} {K : PySem.W.Frag} {names : List Str} {t : Str → TS} (h : ∀ nm ∈ names, cls = .ref (He.ga K nm) → d = none → PSs X b (t nm)) :
    PSs X b (fun D σ H => ∃ nm, nm ∈ names ∧ cls = .ref (He.ga K nm) ∧ d = none ∧ t nm D σ H) :=
  ⟨fun pins s σ H D I ⟨nm, m, e, e2, z⟩ => (h nm m e e2).run pins s σ H D I z⟩
theorem at_cls {K : PySem.W.Frag} {B : Bs} {Γ : List Sl} {names : List Str} {t : Str → TS} {D : Ends} {nm : Str} (m : nm ∈ names) (q : At B Γ (t nm D)) :
    At B Γ (fun σ H => ∃ n', n' ∈ names ∧ (Value.ref (He.ga K nm) : Value) = .ref (He.ga K n') ∧ (none : Option Addr) = none ∧ t n' D σ H) := fun G σ H ok => ⟨nm, m, rfl, rfl, q G σ H ok⟩
/-- which is a kind of which -/
def isX (x y : Str) : Bool := decide (x = y) || decide (y = "KeepError")
def excB (K : PySem.W.Frag) (D : Addr) : Bool :=
  decide (PySem.W.findIn K (.ref D) "__getattribute__" = some (some (.builtin "BaseException.__getattribute__"))) && (decide (PySem.W.findIn K (.ref D) "__getattr__" = some none) && (decide (PySem.W.subIn K (.ref D) (.type "BaseException") = some true) &&
  (PySem.W.hasDictIn K D && (decide (PySem.W.findIn K (.ref D) "__class__" = some (some (.builtin "object.__class__"))) && (decide (PySem.W.specialIn K (.builtin "object.__class__") "__get__" = some (some (.builtin "getset_descriptor.__get__"))) &&
  (decide (PySem.W.takesIn K (.builtin "object.__class__") = some true) && decide (PySem.W.mroIn K D (.type "object") = some true)))))))
theorem excB_C {K : PySem.W.Frag} {D : Addr} (h : excB K D = true) : ExcC K D := by
  unfold excB at h
  simp only [Bool.and_eq_true, decide_eq_true_eq] at h
  obtain ⟨h1, h2, h3, h4, h5, h6, h7, h8⟩ := h
  exact ⟨h1, h2, h3, h4, h5, h6, h7, h8⟩
/-- xs: those that are raised; ys: those that are asked for -/
def clsB (K : PySem.W.Frag) (xs ys : List Str) : Bool :=
  xs.all fun x => excB K (He.ga K x) && (decide (PySem.W.kitOne K (.ref (He.ga K x)) (.type "ValueError") = some true) && ys.all fun y => decide (PySem.W.exmOne K (.ref (He.ga K x)) (.ref (He.ga K y)) = some (isX x y)) && decide (PySem.W.kitOne K (.ref (He.ga K x)) (.ref (He.ga K y)) = some (isX x y)))
structure ClsOk (K : PySem.W.Frag) (xs ys : List Str) : Prop where
  ex : ∀ x ∈ xs, ExcC K (He.ga K x)
  ve : ∀ x ∈ xs, PySem.W.kitOne K (.ref (He.ga K x)) (.type "ValueError") = some true
  em : ∀ x ∈ xs, ∀ y ∈ ys, PySem.W.exmOne K (.ref (He.ga K x)) (.ref (He.ga K y)) = some (isX x y)
  is : ∀ x ∈ xs, ∀ y ∈ ys, PySem.W.kitOne K (.ref (He.ga K x)) (.ref (He.ga K y)) = some (isX x y)
theorem clsB_ok {K : PySem.W.Frag} {xs ys : List Str} (h : clsB K xs ys = true) : ClsOk K xs ys := by
  unfold clsB at h
  rw [List.all_eq_true] at h
  have h' : ∀ x ∈ xs, excB K (He.ga K x) = true ∧ PySem.W.kitOne K (.ref (He.ga K x)) (.type "ValueError") = some true ∧ ∀ y ∈ ys, PySem.W.exmOne K (.ref (He.ga K x)) (.ref (He.ga K y)) = some (isX x y) ∧ PySem.W.kitOne K (.ref (He.ga K x)) (.ref (He.ga K y)) = some (isX x y) := fun x hx => by
    have := h x hx
    simp only [Bool.and_eq_true, decide_eq_true_eq, List.all_eq_true] at this
    exact this
  exact ⟨fun x hx => excB_C (h' x hx).1, fun x hx => (h' x hx).2.1, fun x hx y hy => ((h' x hx).2.2 y hy).1, fun x hx y hy => ((h' x hx).2.2 y hy).2⟩
section
variable {K : PySem.W.Frag} {Γ : List Sl} {D a : Addr} {i : Nat} {b : Bool}
theorem ev_isE {C : Addr} (e : Γ[i]? = some (.ex a)) (h : PySem.W.kitOne K (.ref D) (.ref C) = some b) : Ev (tCB (rIsE K D a) (tCons (tVar i) (tCons (tC (.ref C)) tNil))) Γ (.bool b) := fun B G σ H ok Q q =>
  ⟨.ref a, ok.exc e, .ref C, .ref C, b, rfl, fun u r => (show u = Value.ref C from r), h, q _ G H (Stp.rfl' ok.gh) (.bl b)⟩
theorem ev_isEty {C : String} (e : Γ[i]? = some (.ex a)) (h : PySem.W.kitOne K (.ref D) (.type C) = some b) : Ev (tCB (rIsE K D a) (tCons (tVar i) (tCons (tC (.ty C)) tNil))) Γ (.bool b) := fun B G σ H ok Q q =>
  ⟨.ref a, ok.exc e, .ty C, .type C, b, rfl, fun u r => (show u = Value.type C from r), h, q _ G H (Stp.rfl' ok.gh) (.bl b)⟩
end
end Ck

namespace Ck
open PySem PySem.Spec PyProof.Rows L2

/-! ### deeds, keepers, chains as data -/
structure Dd where
  a : Int
  t : Int
  w : Str
  k : Str
  v : Int
deriving DecidableEq
def Dd.e (d : Dd) : PyData := .tuple [.int d.a, .int d.t, .str d.w, .str d.k, .int d.v]
structure Dd.ok (d : Dd) : Prop where
  a0 : 0 ≤ d.a
  a9 : d.a ≤ 9
  t1 : 1 ≤ d.t
  key : isKeyS d.k = true
  word : isWordS d.w d.v = true
theorem strOk_key {z : Str} (h : isKeyS z = true) : PyData.strOk z = true := by
  unfold isKeyS at h
  simp only [Bool.and_eq_true, decide_eq_true_eq] at h
  unfold PyData.strOk
  have h2 := h.2.2
  unfold lowD at h2
  rw [← Array.all_toList]
  rw [List.all_eq_true] at h2 ⊢
  intro c hc
  have := h2 c hc
  rw [decide_eq_true_eq, letters_mem] at this
  rw [decide_eq_true_eq]
  omega
theorem word_cases {w : Str} {v : Int} (h : isWordS w v = true) : (w = wPut ∨ w = wAdd ∨ w = wOnce) ∨ (w = wAway ∧ v = 0) := by
  unfold isWordS at h
  simp only [Bool.or_eq_true, Bool.and_eq_true, decide_eq_true_eq, beq_iff_eq] at h
  exact h
theorem strOk_word {w : Str} {v : Int} (h : isWordS w v = true) : PyData.strOk w = true := by
  rcases word_cases h with (rfl | rfl | rfl) | ⟨rfl, _⟩ <;> decide +kernel
theorem len_word {w : Str} {v : Int} (h : isWordS w v = true) : w.length ≤ 100000 := by
  rcases word_cases h with (rfl | rfl | rfl) | ⟨rfl, _⟩ <;> decide +kernel
theorem len_key {z : Str} (h : isKeyS z = true) : z.length ≤ 100000 := by
  unfold isKeyS at h
  simp only [Bool.and_eq_true, decide_eq_true_eq] at h
  omega
theorem Dd.ok.isDeed {d : Dd} (h : d.ok) : isDeedD d.e = true := by
  show (decide (0 ≤ d.a) && decide (d.a ≤ 9) && decide (1 ≤ d.t) && isKeyS d.k && isWordS d.w d.v) = true
  rw [decide_eq_true h.a0, decide_eq_true h.a9, decide_eq_true h.t1, h.key, h.word]; rfl
theorem deed_of {x : PyData} (h : isDeedD x = true) : ∃ d : Dd, d.ok ∧ x = d.e := by
  rcases tup_or x with ⟨a, t, w, k, v, rfl⟩ | ⟨ds, rfl, hd⟩ | hx
  · have h' : isDeed5 a t w k v = true := h
    cases a with
    | int a =>
      cases t with
      | int t =>
        cases w with
        | str w =>
          cases v with
          | int v =>
            have h2 : (decide (0 ≤ a) && decide (a ≤ 9) && decide (1 ≤ t) && isKeyD k && isWordS w v) = true := h'
            simp only [Bool.and_eq_true, decide_eq_true_eq] at h2
            cases k with
            | str k => exact ⟨⟨a, t, w, k, v⟩, ⟨h2.1.1.1.1, h2.1.1.1.2, h2.1.1.2, h2.1.2, h2.2⟩, rfl⟩
            | _ => exact absurd h2.1.2 (by simp [isKeyD])
          | _ => exact absurd h' (by simp [isDeed5])
        | _ => exact absurd h' (by simp [isDeed5])
      | _ => exact absurd h' (by simp [isDeed5])
    | _ => exact absurd h' (by simp [isDeed5])
  · rw [isDeed_len hd] at h; cases h
  · rw [isDeed_tup hx] at h; cases h
theorem Dd.ok.sz {d : Dd} (h : d.ok) : DeedSz d.e := fun x hx => by
  simp only [List.mem_cons, List.not_mem_nil, or_false] at hx
  rcases hx with rfl | rfl | rfl | rfl | rfl
  · exact ⟨trivial, trivial⟩
  · exact ⟨trivial, trivial⟩
  · exact ⟨len_word h.word, strOk_word h.word⟩
  · exact ⟨len_key h.key, strOk_key h.key⟩
  · exact ⟨trivial, trivial⟩
theorem Dd.ok.shp {d : Dd} (h : d.ok) : Shp 1 d.e := shp_tuple (n := 0) fun x hx => by
  simp only [List.mem_cons, List.not_mem_nil, or_false] at hx
  rcases hx with rfl | rfl | rfl | rfl | rfl
  · exact shp_int
  · exact shp_int
  · exact shp_str (strOk_word h.word)
  · exact shp_str (strOk_key h.key)
  · exact shp_int
theorem eqv_dd {c d : Dd} : PyData.eqv c.e d.e = decide (c = d) := by
  obtain ⟨a, t, w, k, v⟩ := c
  obtain ⟨a', t', w', k', v'⟩ := d
  show PyData.eqv (.tuple [.int a, .int t, .str w, .str k, .int v]) (.tuple [.int a', .int t', .str w', .str k', .int v']) = _
  simp only [PyData.eqv, PyData.eqvAll, Bool.and_true]
  by_cases h : (⟨a, t, w, k, v⟩ : Dd) = ⟨a', t', w', k', v'⟩
  · cases h; simp
  · rw [decide_eq_false h]
    rw [Bool.eq_false_iff]
    intro z
    simp only [Bool.and_eq_true, beq_iff_eq] at z
    exact h (by rw [z.1, z.2.1, z.2.2.1, z.2.2.2.1, z.2.2.2.2])
theorem noL_dd {d : Dd} : noL d.e = true := by simp [Dd.e, noL, noLs]
theorem noLs_map {α : Type} {f : α → PyData} (h : ∀ x, noL (f x) = true) : ∀ xs : List α, noLs (xs.map f) = true
  | [] => by simp [noLs]
  | x :: xs => by rw [List.map_cons]; simp only [noLs, h x, noLs_map h xs, Bool.and_self]
structure Kp where
  log : List Dd
  sure : Int
  down : List Dd
  up : List Int
def Kp.e (k : Kp) : PyData := .tuple [.list (k.log.map Dd.e), .int k.sure, .list (k.down.map Dd.e), .list (k.up.map .int)]
/-- of a moderate size, of deeds -/
structure Kp.ok (k : Kp) : Prop where
  ll : k.log.length ≤ 1000
  ld : k.down.length ≤ 1000
  lu : k.up.length ≤ 1000
  dl : ∀ d ∈ k.log, d.ok
  dd : ∀ d ∈ k.down, d.ok
def coE : Option (List Dd) → PyData
  | none => .none
  | some l => .list (l.map Dd.e)
structure Ch where
  ks : List Kp
  co : Option (List Dd)
def Ch.e (c : Ch) : PyData := .tuple [.list (c.ks.map Kp.e), coE c.co]
structure Ch.ok (c : Ch) : Prop where
  lk : c.ks.length ≤ 1000
  kp : ∀ k ∈ c.ks, k.ok
  lc : ∀ l, c.co = some l → l.length ≤ 1000 ∧ ∀ d ∈ l, d.ok
/-! what the defs tell -/
def nilK : Kp := ⟨[], 0, [], []⟩
def begunO (n : Int) : Oc := if n < 1 ∨ 9 < n then .error "TooMany" else .ok (Ch.e ⟨List.replicate n.toNat nilK, none⟩)
def R_begun (ds : List PyData) (o : Oc) : Prop := ∃ n : Int, ds = [.int n] ∧ o = begunO n
def R_keeper_of (ds : List PyData) (o : Oc) : Prop := ∃ k : Kp, ds = [k.e] ∧ o = .ok k.e
def R_chain_of (ds : List PyData) (o : Oc) : Prop := ∃ c : Ch, ds = [.list (c.ks.map Kp.e), coE c.co] ∧ c.ks.length ≤ 1001 ∧ o = .ok c.e
def R_with_keeper (ds : List PyData) (o : Oc) : Prop := ∃ (c : Ch) (p : Nat) (k : Kp), ds = [c.e, .int p, k.e] ∧ p < c.ks.length ∧ c.ok ∧ o = .ok (Ch.e ⟨c.ks.set p k, c.co⟩)
def atEnd (k : Kp) (d : Dd) (b : Bool) : Kp := if b then ⟨k.log ++ [d], k.log.length + 1, [], k.up⟩ else ⟨k.log ++ [d], k.sure, k.down ++ [d], k.up⟩
def R_at_end (ds : List PyData) (o : Oc) : Prop := ∃ (k : Kp) (d : Dd) (b : Bool), ds = [k.e, d.e, .bool b] ∧ k.ok ∧ o = .ok (atEnd k d b).e
def takeO (k : Kp) (ks : List Kp) (co : Option (List Dd)) (d : Dd) : Oc :=
  let same := k.log.filter fun x => decide (x.a = d.a)
  if (same.length : Int) + 1 < d.t then .error "BadTurn"
  else if d.t ≤ same.length then (if same[(d.t - 1).toNat]? ≠ some d then .error "OtherDeed" else .ok (Ch.e ⟨k :: ks, co⟩))
  else .ok (Ch.e ⟨atEnd k d ks.isEmpty :: ks, co⟩)
def R_take (ds : List PyData) (o : Oc) : Prop := ∃ (k : Kp) (ks : List Kp) (co : Option (List Dd)), (Ch.mk (k :: ks) co).ok ∧
  ((∃ x, ds = [(Ch.mk (k :: ks) co).e, x] ∧ DeedSz x ∧ isDeedD x = false ∧ o = .error "BadDeed") ∨ (∃ d : Dd, d.ok ∧ ds = [(Ch.mk (k :: ks) co).e, d.e] ∧ o = takeO k ks co d))
section
variable {K : PySem.W.Frag} {Γ : List Sl} {ta tb tc : TE} {E : XK} {W : WK}
theorem ev_at_end {k : Kp} {d : Dd} {b : Bool} (h1 : Ev ta Γ k.e) (h2 : Ev tb Γ d.e) (h3 : Ev tc Γ (.bool b)) (hk : k.ok) : Ev (tCall (spW WD K 3 R_at_end) [] E (tCons ta (tCons tb (tCons tc tNil)))) Γ (atEnd k d b).e :=
  ev_callW (ea_cons h1 (ea_cons h2 (ea_cons h3 ea_nil))) rfl ⟨k, d, b, rfl, hk, rfl⟩
theorem em_keeper_of {k : Kp} (h1 : Ev ta Γ k.e) : EvM (tCall (spW WO K 1 R_keeper_of) [] E (tCons ta tNil)) Γ [] k.e := em_callW (ea_cons h1 ea_nil) rfl ⟨k, rfl, rfl⟩
theorem em_chain_of {c : Ch} (h1 : Ev ta Γ (.list (c.ks.map Kp.e))) (h2 : Ev tb Γ (coE c.co)) (hz : c.ks.length ≤ 1001) : EvM (tCall (spW WO K 2 R_chain_of) [] E (tCons ta (tCons tb tNil))) Γ [] c.e :=
  em_callW (ea_cons h1 (ea_cons h2 ea_nil)) rfl ⟨c, rfl, hz, rfl⟩
theorem em_with_keeper {c : Ch} {p : Nat} {k : Kp} (h1 : Ev ta Γ c.e) (h2 : Ev tb Γ (.int p)) (h3 : Ev tc Γ k.e) (hp : p < c.ks.length) (hc : c.ok) : EvM (tCall (spW WO K 3 R_with_keeper) [] E (tCons ta (tCons tb (tCons tc tNil)))) Γ [] (Ch.e ⟨c.ks.set p k, c.co⟩) :=
  em_callW (ea_cons h1 (ea_cons h2 (ea_cons h3 ea_nil))) rfl ⟨c, p, k, rfl, hp, hc, rfl⟩
theorem em_S {S S' : List Nat} {d : PyData} (h : EvM ta Γ S d) (e : S = S') : EvM ta Γ S' d := e ▸ h
theorem atI_cons0 {α : Type} {x : α} {xs : List α} : atI (x :: xs) 0 = some x := atI_of (i := 0) rfl
/-! lists of owned things -/
theorem em_lcm {α : Type} {js : List Nat} {j : Nat} {wi : TI} (enc : α → PyData) (xs : List α) (f : α → PyData) (hj : js = [j]) (hi : EvI wi Γ (xs.map enc)) (hz : xs.length ≤ sizeLine) (he : ∀ x ∈ xs, EvM ta (Γ.set j (.d (enc x))) [] (f x)) :
    EvM (tLc wi (gName j) tYes ta js) Γ [] (.list (xs.map f)) := fun B G σ H F k Q q => hi B G σ H ⟨F, k⟩ _ fun J G1 H1 s1 it => by
  subst hj
  intro D hD
  have hGD : G1 D = none := s1.gh.no hD
  have hlen : (xs.map enc).length = xs.length := List.length_map _
  refine ⟨fun i m H2 => m = xs.length - i ∧ i ≤ xs.length ∧ ∃ G2 acc fp, Stp G1 H1 G2 H2 ∧ G2 D = none ∧ H2 D = some (.lst acc) ∧ Ros G2 H2 acc ((xs.take i).map f) fp ∧ fp.Nodup ∧ (∀ a ∈ fp, G2 a = none ∧ H1 a = none ∧ a ≠ D), ⟨xs.length, by simp, Nat.zero_le _, G1, [], [], Stp.newH s1.gh hD, hGD, upd_same, .nil, List.nodup_nil, fun _ m => by cases m⟩, ?_⟩
  rintro i m H2 ⟨rfl, hil, G2, acc, fp, s2, hg2, hh2, ra, nd, hfp⟩
  by_cases hlt : i < xs.length
  · have hget : xs[i]? = some xs[i] := List.getElem?_eq_getElem hlt
    have hget' : (xs.map enc)[i]? = some (enc xs[i]) := by rw [List.getElem?_map, hget]; rfl
    have hmem : xs[i] ∈ xs := List.getElem_mem hlt
    have htk : xs.take (i + 1) = xs.take i ++ [xs[i]] := by rw [List.take_add_one, hget]; rfl
    refine .inr ⟨it.go i H2 (by rw [hlen]; exact hlt) (s2.g.tr s2.gh), fun H' => ∃ G' acc' fp', Stp G1 H1 G' H' ∧ G' D = none ∧ H' D = some (.lst acc') ∧ Ros G' H' acc' ((xs.take (i + 1)).map f) fp' ∧ fp'.Nodup ∧ (∀ a ∈ fp', G' a = none ∧ H1 a = none ∧ a ≠ D),
      fun H' h' => ⟨xs.length - (i + 1), by omega, rfl, hlt, h'⟩, fun x H' hy => ?_⟩
    obtain ⟨rfl, rx⟩ := it.yld i H2 x H' _ hget' (s2.g.tr s2.gh) hy
    refine ⟨wipe_after σ j x, ?_⟩
    rw [wipe_set]
    have ok2 : Ok B G2 (σ.set j (some x)) H' (Γ.set j (.d (enc xs[i]))) := ((Ok.step ⟨F, k⟩ s1).step s2).setD j (rx.up s2.g)
    delta tYes
    dsimp only
    rw [if_pos rfl]
    obtain ⟨F2, k2⟩ := ok2
    refine he _ hmem B G2 _ H' F2 k2 _ fun v g G4 H4 s4 rv nd4 m4 => ?_
    have hh4 : H4 D = some (.lst acc) := s4.h D _ hh2
    have hg4 : G4 D = none := s4.nw D _ hh2 hg2
    have hal : acc.length < sizeLine := by
      have h1 := Ros.len _ _ _ ra
      rw [List.length_map, List.length_take] at h1
      omega
    have new4 : ∀ a ∈ g, H' a = none ∧ G4 a = none := fun a ha => by
      rcases (m4 a ha).2 with z | ⟨l, hl, _⟩
      · exact ⟨z, (m4 a ha).1⟩
      · cases hl
    have neD : ∀ a ∈ g, a ≠ D := fun a ha z => by
      have := (new4 a ha).1
      rw [z, hh2] at this; cases this
    have mta := Ros.mt _ _ _ ra
    have hfp4 : ∀ a ∈ fp, upd H4 D (.lst (acc ++ [v])) a = H' a := fun a ha => by
      rw [upd_ne (hfp a ha).2.2]
      exact (mta a ha).ex s4.h
    refine ⟨acc, hh4, hal, G4, acc ++ [v], fp ++ g, ?_, hg4, upd_same, ?_, ?_, ?_⟩
    · have st := s2.tr s4
      refine ⟨st.g, fun b o e => ?_, fun b o e => ?_, st.nw⟩
      · rw [upd_ne (ne_of_none e hD)]
        exact st.h b o e
      · rw [upd_ne (fun z => by subst z; rw [hg4] at e; cases e)]
        exact st.gh b o e
    · rw [htk, List.map_append]
      have h1 : Ros G4 (upd H4 D (.lst (acc ++ [v]))) acc ((xs.take i).map f) fp := Ros.fr (exTup s4.g) _ _ _ ra hfp4
      have h2 : Ros G4 (upd H4 D (.lst (acc ++ [v]))) [v] [f xs[i]] (g ++ []) := .cons (Ro.fr (fun _ _ z => z) _ _ _ rv fun a ha => upd_ne (neD a ha)) .nil
      rw [List.append_nil] at h2
      have app : ∀ {vs : List V} {ds : List PyData} {fa : List Addr}, Ros G4 (upd H4 D (.lst (acc ++ [v]))) vs ds fa → Ros G4 (upd H4 D (.lst (acc ++ [v]))) (vs ++ [v]) (ds ++ [f xs[i]]) (fa ++ g) := by
        intro vs ds fa hr
        induction ds generalizing vs fa with
        | nil => cases hr; exact h2
        | cons d ds ih =>
          cases hr with
          | cons a b =>
            rw [List.append_assoc]
            exact .cons a (ih b)
      exact app h1
    · refine List.nodup_append.mpr ⟨nd, nd4, fun a ha b hb e => ?_⟩
      subst e
      obtain ⟨o, ho⟩ := (mta a ha).some
      rw [(new4 a hb).1] at ho; cases ho
    · intro a ha
      rcases List.mem_append.mp ha with ha | ha
      · obtain ⟨o, ho⟩ := (mta a ha).some
        exact ⟨s4.nw a o ho (hfp a ha).1, (hfp a ha).2.1, (hfp a ha).2.2⟩
      · exact ⟨(new4 a ha).2, s2.h.no (new4 a ha).1, neD a ha⟩
  · have e : i = xs.length := by omega
    subst e
    rw [List.take_length] at ra
    refine .inl ⟨?_, q (.ref D) (D :: fp) G2 H2 (s1.tr s2) (.lst hh2 ra) (List.nodup_cons.mpr ⟨fun m => (hfp D m).2.2 rfl, nd⟩) fun a ha => ?_⟩
    · have h := it.stop H2 (s2.g.tr s2.gh)
      rw [hlen] at h
      exact h
    · rcases List.mem_cons.mp ha with rfl | ha
      · exact ⟨hg2, .inl (s1.h.no hD)⟩
      · exact ⟨(hfp a ha).1, .inl (s1.h.no (hfp a ha).2.1)⟩
end
end Ck
namespace Ck
open PySem PySem.Spec PyProof.Rows L2
def stp (w : Str) (i : Nat) : PyData := .tuple [.str w, .int i]
def kAt (ks : List Kp) (i : Nat) : Kp := ks.getD i nilK
def stepsD (c : Ch) : List PyData := ((List.range c.ks.length).filter fun i => !(kAt c.ks i).down.isEmpty).map (stp "pass") ++ ((List.range c.ks.length).filter fun i => !(kAt c.ks i).up.isEmpty).map (stp "back") ++ (if c.co.isSome then [stp "learn" c.ks.length] else [])
def R_steps_of (ds : List PyData) (d : PyData) : Prop := ∃ c : Ch, ds = [c.e] ∧ c.ok ∧ d = .list (stepsD c)
def R_done0 (ds : List PyData) (o : Oc) : Prop := ∃ (c : Ch) (w : Str) (i : Int), ds = [c.e, .tuple [.str w, .int i]] ∧ c.ok ∧ PyData.strOk w = true ∧ ((stepsD c).any fun y => PyData.eqv y (.tuple [.str w, .int i])) = false ∧ o = .error "NoStep"
def R_fall0 (ds : List PyData) (o : Oc) : Prop := ∃ (c : Ch) (p : Int), ds = [c.e, .int p] ∧ c.ok ∧ c.co = none ∧ (((p < 0 ∨ c.ks.length ≤ p) ∧ o = .error "NoKeeper") ∨ (0 ≤ p ∧ p < c.ks.length ∧ c.ks.length = 1 ∧ o = .error "OnlyKeeper"))
def R_ask0 (ds : List PyData) (o : Oc) : Prop := ∃ (c : PyData) (x : PyData), ds = [c, x] ∧ SzS x ∧ isKeyD x = false ∧ o = .error "BadKey"
def grownD (ks : List Kp) (l : List Dd) : Ch := if l.length = ((ks.getLast?.getD nilK).log).length then ⟨ks ++ [⟨l, l.length, [], []⟩], none⟩ else ⟨ks, some l⟩
def R_grown (ds : List PyData) (o : Oc) : Prop := ∃ (ks : List Kp) (l : List Dd), ds = [.list (ks.map Kp.e), .list (l.map Dd.e)] ∧ ks ≠ [] ∧ (Ch.mk ks (some l)).ok ∧ o = .ok (grownD ks l).e
def comeO (c : Ch) : Oc := if c.co.isSome then .error "OneComing" else if c.ks.length = 9 then .error "TooMany" else .ok (grownD c.ks []).e
def R_come (ds : List PyData) (o : Oc) : Prop := ∃ c : Ch, ds = [c.e] ∧ c.ok ∧ c.ks ≠ [] ∧ o = comeO c
section
variable {K : PySem.W.Frag} {Γ : List Sl} {ta tb tc te : TE} {E : XK} {W : WK}
theorem ev_listRg {n : Int} (h : Ev te Γ (.int n)) (h1 : 0 ≤ n) (h2 : n ≤ 1000) : Ev (tLstRg (tRg1 te)) Γ (.list (rngD 0 n.toNat)) := fun B G σ H ok Q q => h B G σ H ok _ fun v G1 H1 s1 r1 => by
  cases r1
  refine ⟨n, rfl, ⟨by omega, by omega, by omega, by omega, sz_dec (by omega)⟩, fun p hp => ?_⟩
  have e : rgV 0 n = (List.range n.toNat).map fun k : Nat => V.int (0 + k) := by
    unfold rgV
    rw [show (n - 0).toNat = n.toNat by omega]
  refine q (.ref p) _ _ (s1.tr (Stp.new s1.gh hp)) (.lst (.inl upd_same) ?_)
  rw [e]
  have key : ∀ (G : Hp) (l : List Nat), Rps G (l.map fun k : Nat => V.int (0 + k)) (l.map fun k : Nat => PyData.int (0 + k)) := fun G l => by
    induction l with
    | nil => exact .nil
    | cons a b ih => exact .cons (.int _) ih
  exact key _ _
theorem ev_steps_of {c : Ch} (h : Ev ta Γ c.e) (hc : c.ok) : Ev (tCall (spP 1 R_steps_of) [] E (tCons ta tNil)) Γ (.list (stepsD c)) := ev_call (ea_cons h ea_nil) rfl ⟨c, rfl, hc, rfl⟩
theorem em_grown {ks : List Kp} {l : List Dd} (h1 : Ev ta Γ (.list (ks.map Kp.e))) (h2 : Ev tb Γ (.list (l.map Dd.e))) (hn : ks ≠ []) (hc : (Ch.mk ks (some l)).ok) : EvM (tCall (spW WO K 2 R_grown) [] E (tCons ta (tCons tb tNil))) Γ [] (grownD ks l).e :=
  em_callW (ea_cons h1 (ea_cons h2 ea_nil)) rfl ⟨ks, l, rfl, hn, hc, rfl⟩
theorem shp_stp {w : Str} {i : Nat} (h : PyData.strOk w = true) : Shp 1 (stp w i) := shp_tuple (n := 0) fun x hx => by
  simp only [List.mem_cons, List.not_mem_nil, or_false] at hx
  rcases hx with rfl | rfl
  · exact shp_str h
  · exact shp_int
theorem shp_steps {c : Ch} : Shp 2 (.list (stepsD c)) := shp_list (n := 1) fun x hx => by
  unfold stepsD at hx
  rw [List.mem_append, List.mem_append, List.mem_map, List.mem_map] at hx
  rcases hx with (⟨i, _, rfl⟩ | ⟨i, _, rfl⟩) | hx
  · exact shp_stp (by decide +kernel)
  · exact shp_stp (by decide +kernel)
  · split at hx
    · rw [List.mem_singleton] at hx; subst hx; exact shp_stp (by decide +kernel)
    · cases hx
theorem stepsD_len {c : Ch} (hc : c.ok) : (stepsD c).length ≤ 2001 := by
  have h1 := List.length_filter_le (fun i => !(kAt c.ks i).down.isEmpty) (List.range c.ks.length)
  have h2 := List.length_filter_le (fun i => !(kAt c.ks i).up.isEmpty) (List.range c.ks.length)
  have h := hc.lk
  unfold stepsD
  rw [List.length_append, List.length_append, List.length_map, List.length_map]
  rw [List.length_range] at h1 h2
  split <;> simp <;> omega
theorem shp_ddl {l : List Dd} (h : ∀ d ∈ l, d.ok) : Shp 2 (.list (l.map Dd.e)) := shp_list (n := 1) fun x hx => by
  obtain ⟨d, hd, rfl⟩ := List.mem_map.mp hx
  exact (h d hd).shp
theorem shp_il {l : List Int} : Shp 1 (.list (l.map .int)) := shp_list (n := 0) fun x hx => by
  obtain ⟨d, hd, rfl⟩ := List.mem_map.mp hx
  exact shp_int
theorem kAt_mem {ks : List Kp} {i : Nat} (h : i < ks.length) : kAt ks i ∈ ks := by
  unfold kAt
  rw [List.getD_eq_getElem?_getD, List.getElem?_eq_getElem h]
  exact List.getElem_mem h
theorem kAt_get {ks : List Kp} {i : Nat} (h : i < ks.length) : atI (ks.map Kp.e) (i : Int) = some (kAt ks i).e := by
  refine atI_map (f := Kp.e) (atI_of ?_)
  unfold kAt
  rw [List.getD_eq_getElem?_getD, List.getElem?_eq_getElem h]; rfl
/-- == of lists of truths -/
theorem eqvAll_bls : ∀ bs : List Bool, PyData.eqvAll (bs.map .bool) (bs.map .bool) = true
  | [] => by simp [PyData.eqvAll]
  | b :: bs => by
    rw [List.map_cons]
    simp only [PyData.eqvAll, PyData.eqv, eqvAll_bls bs, beq_self_eq_true, Bool.and_self]
theorem rv_eqBls {bs : List Bool} : RvD (rEqD K) (.list (bs.map .bool)) (.list (bs.map .bool)) (.bool true) := by
  have s : Shp 1 (.list (bs.map .bool)) := shp_list (n := 0) fun x hx => by
    obtain ⟨d, hd, rfl⟩ := List.mem_map.mp hx
    exact shp_bool
  have h := rv_eqD (K := K) s.sh s.sh
  rw [show PyData.eqv (.list (bs.map .bool)) (.list (bs.map .bool)) = true by simp only [PyData.eqv, eqvAll_bls]] at h
  exact h
end
end Ck

namespace Ck
open PySem PySem.Spec PyProof.Rows L2

/-! ### the laws' numbers and keys -/
def greatI (n : Int) : Int := if n / 3 % 4 = 0 then n else if n / 3 % 4 = 1 then n ^ Int.toNat 2 else if n / 3 % 4 = 2 then n ^ Int.toNat 4 else n ^ Int.toNat 9
def numberI (n : Int) : Int := if n % 3 = 0 then greatI n * (1 - 2 * (n / 3 / 4 % 2)) else if n % 3 = 1 then n / 3 % 2000 - 1000 else n / 3 % 7 - 3
theorem great_at (n : Int) : atI [PyData.int n, .int (n ^ Int.toNat 2), .int (n ^ Int.toNat 4), .int (n ^ Int.toNat 9)] (n / 3 % 4) = some (.int (greatI n)) := by
  unfold greatI
  have h1 := Int.emod_nonneg (n / 3) (show (4 : Int) ≠ 0 by decide)
  have h2 := Int.emod_lt_of_pos (n / 3) (show (0 : Int) < 4 by decide)
  generalize n / 3 % 4 = m at h1 h2
  obtain rfl | rfl | rfl | rfl : m = 0 ∨ m = 1 ∨ m = 2 ∨ m = 3 := by omega
  · exact atI_of (i := 0) rfl
  · exact atI_of (i := 1) rfl
  · exact atI_of (i := 2) rfl
  · exact atI_of (i := 3) rfl
def R_number (ds : List PyData) (d : PyData) : Prop := ∃ n : Int, ds = [.int n] ∧ 0 ≤ n ∧ n < 1000000 ∧ d = .int (numberI n)
section
variable {Γ : List Sl} {ta tb : TE} {E : XK}
theorem ev_number {n : Int} (h : Ev ta Γ (.int n)) (h0 : 0 ≤ n) (h1 : n < 1000000) : Ev (tCall (spP 1 R_number) [] E (tCons ta tNil)) Γ (.int (numberI n)) := ev_call (ea_cons h ea_nil) rfl ⟨n, rfl, h0, h1, rfl⟩
end
/-! texts by their signs -/
abbrev ch1 (c : Nat) : Str := ⟨#[c]⟩
abbrev cps (z : Str) : List Nat := z.cps.toList
theorem cps_app (x y : Str) : cps (x ++ y) = cps x ++ cps y := by
  show (x ++ y).cps.toList = _
  rw [PySem.Str.cps_append, Array.toList_append]
theorem cps_len (z : Str) : z.length = (cps z).length := by simp [cps, Str.length]
theorem str_ext {x y : Str} (h : cps x = cps y) : x = y := Str.ext' (Array.toList_inj.mp h)
theorem cps_joinS : ∀ cs : List Nat, cps (Str.join "" (cs.map ch1)) = cs
  | [] => rfl
  | [_] => rfl
  | x :: z :: r => by
    show cps (ch1 x ++ "" ++ Str.join "" ((z :: r).map ch1)) = _
    rw [cps_app, cps_app, cps_joinS (z :: r)]
    rfl
theorem cps_join (cs : List Nat) : cps (Txt.join "" (cs.map ch1)) = cs := by
  show cps (Builtin.Str.glued (PySem.Str.ofString "") (cs.map ch1)) = _
  rw [StrLaws.glued_eq_join]
  exact cps_joinS cs
theorem find_ltr : ∀ c ∈ List.range' 97 26, Txt.find LETTERS ⟨#[c]⟩ = (c : Int) - 97 := by decide +kernel
theorem ltr_at {i : Int} (h0 : 0 ≤ i) (h1 : i < 26) : atI LETTERS.cps.toList i = some (97 + i.toNat) := by
  rw [letters_list]
  refine atI_int h0 ?_
  rw [List.getElem?_range' (by omega)]
  simp
def ltrOf (n : Int) (k : Nat) : Nat := 97 + ((n / (k + 1) + 3 * k) % 26).toNat
def sizeOf_ (n : Int) : Nat := (1 + n % 8).toNat
def wordL (n : Int) : List Nat := (List.range (sizeOf_ n)).map (ltrOf n)
def placeOf (n : Int) : Nat := (n / 8 % (sizeOf_ n : Int)).toNat
def otherOf (n : Int) : Nat := 97 + ((((wordL n).getD (placeOf n) 97 : Int) - 97 + 1 + n / 64 % 25) % 26).toNat
def wordS (n : Int) : Str := Txt.join "" ((wordL n).map ch1)
def keysS (n : Int) : List Str := [wordS n, cutS (wordS n) none (some (placeOf n : Int)) ++ ch1 (otherOf n) ++ cutS (wordS n) (some ((placeOf n : Int) + 1)) none, cutS (wordS n ++ ch1 (otherOf n)) none (some 8), "a"]
theorem size_lo (n : Int) : 1 ≤ sizeOf_ n ∧ sizeOf_ n ≤ 8 := by
  unfold sizeOf_
  have h1 := Int.emod_nonneg n (show (8 : Int) ≠ 0 by decide)
  have h2 := Int.emod_lt_of_pos n (show (0 : Int) < 8 by decide)
  omega
theorem place_lt (n : Int) : placeOf n < sizeOf_ n := by
  unfold placeOf
  have h := size_lo n
  have h1 := Int.emod_nonneg (n / 8) (show (sizeOf_ n : Int) ≠ 0 by omega)
  have h2 := Int.emod_lt_of_pos (n / 8) (show (0 : Int) < (sizeOf_ n : Int) by omega)
  omega
theorem wordL_len (n : Int) : (wordL n).length = sizeOf_ n := by simp [wordL]
theorem ltr26 (m : Int) : 97 ≤ 97 + (m % 26).toNat ∧ 97 + (m % 26).toNat < 123 := by
  have h1 := Int.emod_nonneg m (show (26 : Int) ≠ 0 by decide)
  have h2 := Int.emod_lt_of_pos m (show (0 : Int) < 26 by decide)
  omega
theorem wordL_low (n : Int) : ∀ c ∈ wordL n, 97 ≤ c ∧ c < 123 := fun c hc => by
  obtain ⟨k, _, rfl⟩ := List.mem_map.mp hc
  exact ltr26 _
theorem other_low (n : Int) : 97 ≤ otherOf n ∧ otherOf n < 123 := ltr26 _
theorem keyS_of {z : Str} (h1 : 1 ≤ (cps z).length) (h8 : (cps z).length ≤ 8) (hl : ∀ c ∈ cps z, 97 ≤ c ∧ c < 123) : isKeyS z = true := by
  unfold isKeyS lowD
  rw [cps_len, decide_eq_true h1, decide_eq_true h8]
  simp only [Bool.true_and, List.all_eq_true, decide_eq_true_eq]
  exact fun c hc => (letters_mem c).mpr (hl c hc)
end Ck
namespace Ck
open PySem PySem.Spec PyProof.Rows L2
theorem cps_word (n : Int) : cps (wordS n) = wordL n := cps_join _
theorem word_len (n : Int) : (wordS n).length = sizeOf_ n := by rw [cps_len, cps_word, wordL_len]
theorem cps_cut {z : Str} {lo hi : Option Int} : cps (cutS z lo hi) = cutG (cps z) lo hi := by
  unfold cutS cps
  simp [cutG]
  rfl
theorem keys_ok (n : Int) : ∀ k ∈ keysS n, isKeyS k = true := by
  have hs := size_lo n
  have hp := place_lt n
  have hw := wordL_low n
  have ho := other_low n
  have hl := wordL_len n
  intro k hk
  unfold keysS at hk
  simp only [List.mem_cons, List.not_mem_nil, or_false] at hk
  rcases hk with rfl | rfl | rfl | rfl
  · refine keyS_of ?_ ?_ ?_
    · rw [cps_word, hl]; omega
    · rw [cps_word, hl]; omega
    · rw [cps_word]; exact hw
  · have e : cps (cutS (wordS n) none (some (placeOf n : Int)) ++ ch1 (otherOf n) ++ cutS (wordS n) (some ((placeOf n : Int) + 1)) none) = (wordL n).take (placeOf n) ++ [otherOf n] ++ (wordL n).drop (placeOf n + 1) := by
      rw [cps_app, cps_app, cps_cut, cps_cut, cps_word, cutG_take (by omega) (by rw [hl]; omega), cutG_drop (by omega) (by rw [hl]; omega)]
      rw [show ((placeOf n : Int) + 1).toNat = placeOf n + 1 by omega]
      rfl
    refine keyS_of ?_ ?_ ?_
    · rw [e]; simp; omega
    · rw [e]; simp; omega
    · rw [e]
      intro c hc
      simp only [List.mem_append, List.mem_singleton] at hc
      rcases hc with (hc | rfl) | hc
      · exact hw c (List.mem_of_mem_take hc)
      · exact ho
      · exact hw c (List.mem_of_mem_drop hc)
  · have e : cps (cutS (wordS n ++ ch1 (otherOf n)) none (some 8)) = (wordL n ++ [otherOf n]).take 8 := by
      rw [cps_cut, cps_app, cps_word]
      show cutG (wordL n ++ [otherOf n]) none (some 8) = _
      by_cases h8 : sizeOf_ n + 1 ≤ 8
      · rw [List.take_of_length_le (by rw [List.length_append, hl]; exact h8)]
        unfold cutG
        have : HT.sIx (wordL n ++ [otherOf n]).length (wordL n ++ [otherOf n]).length (some 8) = (wordL n ++ [otherOf n]).length := by
          have hz : (wordL n ++ [otherOf n]).length = sizeOf_ n + 1 := by rw [List.length_append, hl]; rfl
          rw [hz]
          unfold HT.sIx
          simp
          omega
        rw [this]
        simp [HT.sIx]
        exact List.take_of_length_le (by simp)
      · exact cutG_take (i := 8) (by decide) (by rw [List.length_append, hl]; show (8 : Int) ≤ ((sizeOf_ n + 1 : Nat) : Int); omega)
    refine keyS_of ?_ ?_ ?_
    · rw [e]; simp; omega
    · rw [e]; simp; omega
    · rw [e]
      intro c hc
      have := List.mem_of_mem_take hc
      simp only [List.mem_append, List.mem_singleton] at this
      rcases this with hc | rfl
      · exact hw c hc
      · exact ho
  · decide +kernel
def R_keys (ds : List PyData) (d : PyData) : Prop := ∃ n : Int, ds = [.int n] ∧ 0 ≤ n ∧ n < 1000000 ∧ d = .list ((keysS n).map .str)
section
variable {Γ : List Sl} {ta tb : TE} {E : XK}
theorem ev_keys {n : Int} (h : Ev ta Γ (.int n)) (h0 : 0 ≤ n) (h1 : n < 1000000) : Ev (tCall (spP 1 R_keys) [] E (tCons ta tNil)) Γ (.list ((keysS n).map .str)) := ev_call (ea_cons h ea_nil) rfl ⟨n, rfl, h0, h1, rfl⟩
end
end Ck

namespace Ck
open PySem PySem.Spec PyProof.Rows L2

/-! ### dicts of texts and numbers -/
def valD (kvs : List (Str × Int)) (k : Str) : Option Int := (kvs.find? fun p => decide (p.1 = k)).map (·.2)
def putS (kvs : List (Str × Int)) (k : Str) (v : Int) : List (Str × Int) := if (kvs.any fun p => decide (p.1 = k)) = true then kvs.map (fun p => if p.1 = k then (p.1, v) else p) else kvs ++ [(k, v)]
def dropS (kvs : List (Str × Int)) (k : Str) : List (Str × Int) := kvs.filter fun p => decide (p.1 ≠ k)
theorem inr_dec {a b : Str} : decide ((Sum.inr a : Key) = Sum.inr b) = decide (a = b) := by
  by_cases h : a = b
  · rw [h]; simp
  · rw [decide_eq_false h]; exact decide_eq_false fun z => h (Sum.inr.inj z)
theorem valV_data (k : Str) : ∀ kvs : List (Str × Int), valV (kvs.map kvI) (Sum.inr k : Key) = (valD kvs k).map V.int
  | [] => rfl
  | p :: r => by
    by_cases e : p.1 = k
    · rw [List.map_cons, valV_pos (p := kvI p) (congrArg Sum.inr e)]
      unfold valD
      rw [List.find?_cons_of_pos (by simpa using e)]; rfl
    · rw [List.map_cons, valV_neg (p := kvI p) (fun z => e (Sum.inr.inj z)), valV_data k r]
      unfold valD
      rw [List.find?_cons_of_neg (by simpa using e)]
theorem any_data (k : Str) (kvs : List (Str × Int)) : ((kvs.map kvI).any fun kv => decide (kv.1 = (Sum.inr k : Key))) = kvs.any fun p => decide (p.1 = k) := by
  rw [List.any_map]
  congr 1
  funext p
  exact inr_dec
theorem putK_data (k : Str) (v : Int) (kvs : List (Str × Int)) : putK (kvs.map kvI) (Sum.inr k : Key) (.int v) = (putS kvs k v).map kvI := by
  unfold putK putS
  rw [any_data]
  split
  · rw [List.map_map, List.map_map]
    refine List.map_congr_left fun p _ => ?_
    show (if (Sum.inr p.1 : Key) = Sum.inr k then (Sum.inr p.1, V.int v) else kvI p) = kvI (if p.1 = k then (p.1, v) else p)
    by_cases e : p.1 = k
    · rw [if_pos e, if_pos (congrArg Sum.inr e)]; rfl
    · rw [if_neg e, if_neg fun z => e (Sum.inr.inj z)]
  · rw [List.map_append]; rfl
theorem dropK_data (k : Str) (kvs : List (Str × Int)) : dropK (kvs.map kvI) (Sum.inr k : Key) = (dropS kvs k).map kvI := by
  unfold dropK dropS
  rw [List.filter_map]
  congr 1
  refine List.filter_congr fun p _ => ?_
  exact decide_eq_decide.mpr (not_congr ⟨fun z => Sum.inr.inj z, fun z => congrArg Sum.inr z⟩)
def optI : Option Int → PyData
  | none => .none
  | some i => .int i
def optV : Option Int → V
  | none => .non
  | some i => .int i
theorem rp_opt {G : Hp} (o : Option Int) : Rp G (optV o) (optI o) := by
  cases o with
  | none => exact .non
  | some i => exact .int i
theorem Rp.dict {G H : Hp} {v : V} {kvs : List (Str × Int)} (r : Rp G v (.dict (kvs.map kvD))) : ∃ a ks, v = .ref a ∧ G a = some (.dK (List.map kvI ks)) ∧ ks = kvs := by
  generalize hp : kvs.map kvD = ps at r
  cases r with
  | @dct a ks _ h e =>
    refine ⟨a, ks, rfl, h, ?_⟩
    rw [e] at hp
    clear h e
    induction ks generalizing kvs with
    | nil => cases kvs with
      | nil => rfl
      | cons _ _ => cases hp
    | cons k ks ih => cases kvs with
      | nil => cases hp
      | cons p r =>
        rw [List.map_cons, List.map_cons] at hp
        have h1 := List.cons.inj hp
        rw [ih h1.2]
        have h2 := h1.1
        unfold kvD at h2
        obtain ⟨a, b⟩ := k
        obtain ⟨c, d⟩ := p
        cases h2
        rfl
section
variable {K : PySem.W.Frag} {Γ : List Sl} {td ty tx tv te : TE} {kvs : List (Str × Int)} {k : Str} {i : Nat} {z v : Int}
/-- an expression that tells a dict, to be read -/
def EvK (td : TE) (Γ : List Sl) (kvs : List (Str × Int)) : Prop := ∀ (B : Bs) (G : Hp) (σ : L2.St) (H : Hp), Ok B G σ H Γ → ∀ Q : VK, (∀ a G' H', Stp G H G' H' → Rd G' a (.dK (kvs.map kvI)) → Q (.ref a) H') → td σ H Q
theorem ek_d (h : Ev td Γ (.dict (kvs.map kvD))) : EvK td Γ kvs := fun B G σ H ok Q q => h B G σ H ok Q fun v G' H' s r => by
  obtain ⟨a, ks, rfl, e, rfl⟩ := r.dict (H := H')
  exact q a G' H' s (.inl e)
theorem ek_dl (e : Γ[i]? = some (.dl kvs)) : EvK (tVar i) Γ kvs := fun B G σ H ok Q q => by
  obtain ⟨F, k⟩ := ok
  obtain ⟨a, e1, r⟩ := k.sl i _ e
  exact ⟨.ref a, e1, q a G H (Stp.rfl' k.st.gh) r⟩
theorem dget_of {H : Hp} {a : Addr} (r : Rd H a (.dK (kvs.map kvI))) : DGet H a (.str k) ((valD kvs k).map V.int) := .inl ⟨kvs.map kvI, .inr k, r, rfl, (valV_data k kvs).symm⟩
theorem ev_dget1 (h : EvK td Γ kvs) (hk : Ev ty Γ (.str k)) : Ev (tDGet1 td ty) Γ (optI (valD kvs k)) := fun B G σ H ok Q q =>
  h B G σ H ok _ fun a G1 H1 s1 r1 => ⟨a, rfl, .inl ⟨_, s1.gh.rd r1⟩, hk B G1 σ H1 (ok.step s1) _ fun y G2 H2 s2 r2 => by
    cases r2
    refine ⟨_, dget_of ((s1.gh.tr s2.h).rd r1), ?_⟩
    have := q (optV (valD kvs k)) G2 H2 (s1.tr s2) (rp_opt _)
    cases e : valD kvs k <;> rw [e] at this <;> exact this⟩
theorem ev_dget2 (h : EvK td Γ kvs) (hk : Ev ty Γ (.str k)) (hx : Ev tx Γ (.int z)) : Ev (tDGet2 td ty tx) Γ (.int ((valD kvs k).getD z)) := fun B G σ H ok Q q =>
  h B G σ H ok _ fun a G1 H1 s1 r1 => ⟨a, rfl, .inl ⟨_, s1.gh.rd r1⟩, hk B G1 σ H1 (ok.step s1) _ fun y G2 H2 s2 r2 => hx B G2 σ H2 (ok.step (s1.tr s2)) _ fun x G3 H3 s3 r3 => by
    cases r2
    cases r3
    refine ⟨_, dget_of (((s1.gh.tr s2.h).tr s3.h).rd r1), ?_⟩
    have := q (.int ((valD kvs k).getD z)) G3 H3 ((s1.tr s2).tr s3) (.int _)
    cases e : valD kvs k <;> rw [e] at this <;> exact this⟩
theorem ev_dget (h : EvK td Γ kvs) (hk : Ev ty Γ (.str k)) (e : valD kvs k = some v) : Ev (tDGet td ty) Γ (.int v) := fun B G σ H ok Q q =>
  h B G σ H ok _ fun a G1 H1 s1 r1 => hk B G1 σ H1 (ok.step s1) _ fun y G2 H2 s2 r2 => by
    cases r2
    have g := dget_of (k := k) ((s1.gh.tr s2.h).rd r1)
    rw [e] at g
    exact ⟨a, .int v, rfl, g, q _ G2 H2 (s1.tr s2) (.int v)⟩
theorem ev_din (h : EvK td Γ kvs) (hk : Ev ty Γ (.str k)) : Ev (tDIn ty td) Γ (.bool (valD kvs k).isSome) := fun B G σ H ok Q q =>
  hk B G σ H ok _ fun y G1 H1 s1 r1 => h B G1 σ H1 (ok.step s1) _ fun a G2 H2 s2 r2 => by
    cases r1
    refine ⟨a, _, rfl, dget_of (s2.gh.rd r2), ?_⟩
    have := q (.bl (valD kvs k).isSome) G2 H2 (s1.tr s2) (.bl _)
    cases e : valD kvs k <;> rw [e] at this <;> exact this
/-- a new dict -/
def EvND (te : TE) (Γ : List Sl) (kvs : List (Str × Int)) : Prop := ∀ (B : Bs) (G : Hp) (σ : L2.St) (H : Hp), Ok B G σ H Γ → ∀ Q : VK, (∀ a G' H', Stp G H G' H' → H a = none → G' a = none → H' a = some (.dK (kvs.map kvI)) → Q (.ref a) H') → te σ H Q
theorem nd_empty : EvND tDNewK Γ [] := fun B G σ H ok Q q => fun p hp => q p G _ (Stp.newH ok.gh hp) hp (ok.gh.no hp) upd_same
theorem nd_copy (h : EvK te Γ kvs) : EvND (tCB (fun xs H Q => ∃ (a : Addr) (kvs : List (Key × V)), xs = [.ref a] ∧ Rd H a (.dK kvs) ∧ ∀ p, H p = none → Q (.ref p) (upd H p (.dK kvs))) (tCons te tNil)) Γ kvs := fun B G σ H ok Q q =>
  h B G σ H ok _ fun a G1 H1 s1 r1 => ⟨a, _, rfl, s1.gh.rd r1, fun p hp => q p G1 _ (s1.tr (Stp.newH s1.gh hp)) (s1.h.no hp) (s1.gh.no hp) upd_same⟩
theorem EvND.ev (h : EvND te Γ kvs) : Ev te Γ (.dict (kvs.map kvD)) := fun B G σ H ok Q q => h B G σ H ok Q fun a G' H' s h0 hg hh => q (.ref a) _ H' (s.give h0 hg hh) (.dct upd_same rfl)
variable {B : Bs} {nx bk ct : L2.St → Hp → Prop} {rt : VK} {Γ' : List Sl}
theorem at_setND (h : EvND te Γ kvs) (hs : SetAt Γ i (.ownD kvs) Γ') (q : At B Γ' nx) : At B Γ (tAsg te (gName i) ⟨nx, rt, bk, ct⟩) := fun G σ H ok =>
  h B G σ H ok _ fun a G' H' s h0 hg hh => q G' _ H' (hs.eq ▸ ok.setF s i (f := [a]) ⟨a, rfl, List.mem_cons_self, hh⟩ fun b m => by
    rcases List.mem_cons.mp m with rfl | m
    · exact ⟨h0, hg, .inr ⟨_, hh⟩⟩
    · cases m)
theorem at_dput (e : Γ[i]? = some (.ownD kvs)) (hv : Ev tv Γ (.int v)) (hk : Ev ty Γ (.str k)) (hz : kvs.length < sizeLine) (hs : SetAt Γ i (.ownD (putS kvs k v)) Γ') (q : At B Γ' nx) : At B Γ (sDPut (tVar i) ty tv ⟨nx, rt, bk, ct⟩) := fun G σ H ok => by
  obtain ⟨a, e1, h0, hg, hh⟩ := ok.ownD e
  refine hv B G σ H ok _ fun v' G1 H1 s1 r1 => ⟨.ref a, e1, ?_⟩
  refine hk B G1 σ H1 (ok.step s1) _ fun y G2 H2 s2 r2 => ?_
  cases r1
  cases r2
  have s := s1.tr s2
  refine ⟨a, _, rfl, .inl ⟨kvs.map kvI, .inr k, s.h _ _ hh, rfl, by rw [List.length_map]; exact hz, rfl⟩, ?_⟩
  rw [putK_data]
  exact q G2 σ _ (hs.eq ▸ (ok.step s).mut (fun _ z => .inr ⟨_, z⟩) (fun F k => k.inOwnD e e1) fun f m => ⟨a, e1, m, upd_same⟩)
theorem at_dpop1 (e : Γ[i]? = some (.ownD kvs)) (hk : Ev ty Γ (.str k)) (hv : valD kvs k = some v) (hs : SetAt Γ i (.ownD (dropS kvs k)) Γ') (q : At B Γ' nx) : At B Γ (tDrop (tDPop1 (tVar i) ty) ⟨nx, rt, bk, ct⟩) := fun G σ H ok => by
  obtain ⟨a, e1, h0, hg, hh⟩ := ok.ownD e
  refine ⟨.ref a, e1, a, rfl, .inl ⟨_, .inl hh⟩, ?_⟩
  refine hk B G σ H ok _ fun y G2 H2 s2 r2 => ?_
  cases r2
  refine ⟨kvs.map kvI, .inr k, .int v, s2.h _ _ hh, rfl, by rw [valV_data, hv]; rfl, ?_⟩
  rw [dropK_data]
  exact q G2 σ _ (hs.eq ▸ (ok.step s2).mut (fun _ z => .inr ⟨_, z⟩) (fun F k => k.inOwnD e e1) fun f m => ⟨a, e1, m, upd_same⟩)
theorem dropS_no {kvs : List (Str × Int)} (h : valD kvs k = none) : dropS kvs k = kvs := by
  unfold dropS
  refine List.filter_eq_self.mpr fun p hp => decide_eq_true fun z => ?_
  unfold valD at h
  rw [Option.map_eq_none_iff, List.find?_eq_none] at h
  exact h p hp (by simpa using z)
theorem at_dpop2 (e : Γ[i]? = some (.ownD kvs)) (hk : Ev ty Γ (.str k)) (hs : SetAt Γ i (.ownD (dropS kvs k)) Γ') (q : At B Γ' nx) : At B Γ (tDrop (tDPop2 (tVar i) ty (tC .non)) ⟨nx, rt, bk, ct⟩) := fun G σ H ok => by
  obtain ⟨a, e1, h0, hg, hh⟩ := ok.ownD e
  refine ⟨.ref a, e1, a, rfl, .inl ⟨_, .inl hh⟩, ?_⟩
  refine hk B G σ H ok _ fun y G2 H2 s2 r2 => ?_
  cases r2
  refine ⟨kvs.map kvI, .inr k, s2.h _ _ hh, rfl, fun v' hv => ?_, fun hv => ?_⟩
  · rw [dropK_data]
    exact q G2 σ _ (hs.eq ▸ (ok.step s2).mut (fun _ z => .inr ⟨_, z⟩) (fun F k => k.inOwnD e e1) fun f m => ⟨a, e1, m, upd_same⟩)
  · rw [valV_data] at hv
    have hn : valD kvs k = none := by
      cases e2 : valD kvs k with
      | none => rfl
      | some x => rw [e2] at hv; cases hv
    have hs' := hs.eq
    rw [dropS_no hn] at hs'
    have eq : Γ.set i (.ownD kvs) = Γ := by
      obtain ⟨hl, hv⟩ := List.getElem?_eq_some_iff.mp e
      rw [← hv]; exact List.set_getElem_self hl
    exact q G2 σ H2 (hs' ▸ eq.symm ▸ ok.step s2)
/-- an own dict, read -/
theorem ek_own (e : Γ[i]? = some (.ownD kvs)) : EvK (tVar i) (Γ.map Sl.fz) kvs := ek_d (ev_var (by rw [List.getElem?_map, e]; rfl))
end
end Ck

namespace Ck
open PySem PySem.Spec PyProof.Rows L2

/-! ### sorted keys: there is but one such list -/
theorem rising_pw : ∀ (l : List Str) (p : Str), risingS p l = true → (∀ x ∈ l, cps p ≤ cps x) ∧ l.Pairwise fun a b => cps a ≤ cps b
  | [], p, _ => ⟨fun x hx => (by cases hx), .nil⟩
  | x :: r, p, h => by
    have h' : (!ltCps x.cps.toList p.cps.toList && risingS x r) = true := h
    rw [Bool.and_eq_true, ltCps_eq, Bool.not_eq_true', decide_eq_false_iff_not] at h'
    have hp : cps p ≤ cps x := h'.1
    obtain ⟨i1, i2⟩ := rising_pw r x h'.2
    refine ⟨fun y hy => ?_, .cons i1 i2⟩
    rcases List.mem_cons.mp hy with rfl | hy
    · exact hp
    · exact List.le_trans hp (i1 y hy)
theorem sorted_pw : ∀ l : List Str, sortedS l = true → l.Pairwise fun a b => cps a ≤ cps b
  | [], _ => .nil
  | x :: r, h => .cons (rising_pw r x h).1 (rising_pw r x h).2
theorem sorted_one {ys zs ks : List Str} (h1 : ys.Perm ks) (s1 : sortedS ys = true) (h2 : zs.Perm ks) (s2 : sortedS zs = true) : ys = zs :=
  List.Perm.eq_of_pairwise (fun _ _ _ _ a b => str_ext (List.le_antisymm a b)) (sorted_pw ys s1) (sorted_pw zs s2) (h1.trans h2.symm)
open Classical in
noncomputable def sortK (ks : List Str) : List Str := if h : ∃ ys : List Str, ys.Perm ks ∧ sortedS ys = true then h.choose else ks
theorem sortK_eq {ys ks : List Str} (h : ys.Perm ks) (s : sortedS ys = true) : sortK ks = ys := by
  have e : ∃ ys : List Str, ys.Perm ks ∧ sortedS ys = true := ⟨ys, h, s⟩
  unfold sortK
  rw [dif_pos e]
  exact sorted_one e.choose_spec.1 e.choose_spec.2 h s
/-- sorted(d) -/
def rSortD : List V → Hp → VK → Prop := fun xs H Q =>
  ∃ (a : Addr) (kvs : List (Key × V)) (ks : List Str), xs = [.ref a] ∧ Rd H a (.dK kvs) ∧
    kvs.map (·.1) = ks.map Sum.inr ∧ ks.length < 64 ∧
    ∀ ys p, ys.Perm ks → sortedS ys = true → H p = none →
      Q (.ref p) (upd H p (.lst (ys.map V.str)))
theorem call_sortedK {X : Cx} (hc : X.calm = true) : CallR X (.builtin "sorted") rSortD := call_sortedD hc
section
variable {K : PySem.W.Frag} {Γ : List Sl} {td te : TE} {kvs : List (Str × Int)} {i : Nat}
theorem keys_inr (kvs : List (Str × Int)) : (kvs.map kvI).map (·.1) = (kvs.map (·.1)).map Sum.inr := by
  rw [List.map_map, List.map_map]; rfl
theorem evN_sortD (h : EvK td Γ kvs) (hz : kvs.length < 64) : EvN (tCB rSortD (tCons td tNil)) Γ ((sortK (kvs.map (·.1))).map .str) := fun B G σ H ok Q q =>
  h B G σ H ok _ fun a G1 H1 s1 r1 => ⟨a, _, kvs.map (·.1), rfl, s1.gh.rd r1, keys_inr kvs, by rw [List.length_map]; exact hz, fun ys p hp hs hn => by
    rw [sortK_eq hp hs] at q
    exact q p (ys.map V.str) G1 _ (s1.tr (Stp.newH s1.gh hn)) (s1.h.no hn) (s1.gh.no hn) upd_same (Rps.ofStrs ys)⟩
theorem nodup_kvI (h : (kvs.map (·.1)).Nodup) : ((kvs.map kvI).map (·.1)).Nodup := by
  rw [keys_inr]
  exact List.Pairwise.map Sum.inr (fun a b hne z => hne (Sum.inr.inj z)) h
theorem rv_eqDict (h : (kvs.map (·.1)).Nodup) : RvD rEqDA (.dict (kvs.map kvD)) (.dict (kvs.map kvD)) (.bool true) := fun G H v u e rx ry Q q => by
  obtain ⟨a, ks, rfl, e1, rfl⟩ := rx.dict (H := H)
  obtain ⟨b, ls, rfl, e2, rfl⟩ := ry.dict (H := H)
  refine ⟨a, b, _, _, rfl, rfl, e _ _ e1, e _ _ e2, rfl, fun p hp => ⟨val_nodup (nodup_kvI h) p hp, ?_⟩, q _ G H (Stp.rfl' e) (.bl true)⟩
  obtain ⟨x, _, rfl⟩ := List.mem_map.mp hp
  rfl
theorem rv_neDict (h : (kvs.map (·.1)).Nodup) : RvD rNeDA (.dict (kvs.map kvD)) (.dict (kvs.map kvD)) (.bool false) := fun G H v u e rx ry Q q => by
  obtain ⟨a, ks, rfl, e1, rfl⟩ := rx.dict (H := H)
  obtain ⟨b, ls, rfl, e2, rfl⟩ := ry.dict (H := H)
  refine ⟨a, b, _, _, rfl, rfl, e _ _ e1, e _ _ e2, rfl, fun p hp => ⟨val_nodup (nodup_kvI h) p hp, ?_⟩, q _ G H (Stp.rfl' e) (.bl false)⟩
  obtain ⟨x, _, rfl⟩ := List.mem_map.mp hp
  rfl
end

/-! ### a dict that is walked is locked meanwhile -/
def lkv (d : Addr) (od : Obj) (H : Hp) : Hp := fun a => if a = d then (match H a with
  | some (.dK kvs) => some (.frz od (.dK kvs))
  | o => o) else H a
def ulv (d : Addr) (H : Hp) : Hp := fun a => if a = d then (match H a with
  | some (.frz _ (.dK kvs)) => some (.dK kvs)
  | o => o) else H a
section
variable {d : Addr} {od : Obj} {G H G' H' : Hp} {kvs : List (Key × V)}
theorem lkv_ne {a : Addr} (h : a ≠ d) : lkv d od H a = H a := if_neg h
theorem ulv_ne {a : Addr} (h : a ≠ d) : ulv d H a = H a := if_neg h
theorem lkv_none {a : Addr} : lkv d od H a = none ↔ H a = none := by
  unfold lkv
  split
  · split
    · rename_i h; rw [h]; simp
    · rfl
  · rfl
theorem ulv_none {a : Addr} : ulv d H a = none ↔ H a = none := by
  unfold ulv
  split
  · split
    · rename_i h; rw [h]; simp
    · rfl
  · rfl
theorem Ex.lk (e : Ex H H') : Ex (lkv d od H) (lkv d od H') := fun a o q => by
  have hn : H a ≠ none := fun z => by rw [lkv_none.mpr z] at q; cases q
  obtain ⟨u, hu⟩ := Option.ne_none_iff_exists'.mp hn
  have hu' := e a u hu
  unfold lkv at q ⊢
  rw [hu] at q
  rw [hu']
  exact q
theorem Ex.ul (e : Ex H H') : Ex (ulv d H) (ulv d H') := fun a o q => by
  have hn : H a ≠ none := fun z => by rw [ulv_none.mpr z] at q; cases q
  obtain ⟨u, hu⟩ := Option.ne_none_iff_exists'.mp hn
  have hu' := e a u hu
  unfold ulv at q ⊢
  rw [hu] at q
  rw [hu']
  exact q
theorem Stp.lk (s : Stp G H G' H') : Stp (lkv d od G) (lkv d od H) (lkv d od G') (lkv d od H') := ⟨s.g.lk, s.h.lk, s.gh.lk, fun a o h1 h2 => by
  have hn : H a ≠ none := fun z => by rw [lkv_none.mpr z] at h1; cases h1
  obtain ⟨u, hu⟩ := Option.ne_none_iff_exists'.mp hn
  exact lkv_none.mpr (s.nw a u hu (lkv_none.mp h2))⟩
theorem Stp.ul (s : Stp G H G' H') : Stp (ulv d G) (ulv d H) (ulv d G') (ulv d H') := ⟨s.g.ul, s.h.ul, s.gh.ul, fun a o h1 h2 => by
  have hn : H a ≠ none := fun z => by rw [ulv_none.mpr z] at h1; cases h1
  obtain ⟨u, hu⟩ := Option.ne_none_iff_exists'.mp hn
  exact ulv_none.mpr (s.nw a u hu (ulv_none.mp h2))⟩
theorem lkv_at (h : H d = some (.dK kvs)) : lkv d od H = upd H d (.frz od (.dK kvs)) := by
  funext a
  by_cases e : a = d
  · subst e
    unfold lkv
    rw [if_pos rfl, h, upd_same]
  · rw [lkv_ne e, upd_ne e]
theorem ulv_at {o : Obj} (h : H d = some (.frz o (.dK kvs))) : ulv d H = upd H d (.dK kvs) := by
  funext a
  by_cases e : a = d
  · subst e
    unfold ulv
    rw [if_pos rfl, h, upd_same]
  · rw [ulv_ne e, upd_ne e]
/-- of a heap in which d is not locked -/
theorem ul_lk (h : H d = none ∨ H d = some (.dK kvs)) : ulv d (lkv d od H) = H := by
  funext a
  by_cases e : a = d
  · subst e
    unfold ulv lkv
    rw [if_pos rfl, if_pos rfl]
    rcases h with h | h <;> rw [h]
  · rw [ulv_ne e, lkv_ne e]
theorem Rd.lkT {a : Addr} {u : HO} (hp : ∀ k, u ≠ .dK k) (r : Rd H a u) : Rd (lkv d od H) a u := by
  by_cases e : a = d
  · subst e
    unfold Rd lkv
    rw [if_pos rfl]
    rcases r with r | ⟨o, r⟩
    · rw [r]
      left
      cases u with
      | dK k => exact absurd rfl (hp k)
      | _ => rfl
    · right; exact ⟨o, by rw [r]⟩
  · unfold Rd
    rw [lkv_ne e]; exact r
theorem Rd.ulT {a : Addr} {u : HO} (hp : ∀ k, u ≠ .dK k) (hf : ∀ o k, u ≠ .frz o k) (r : Rd H a u) : Rd (ulv d H) a u := by
  by_cases e : a = d
  · subst e
    unfold Rd ulv
    rw [if_pos rfl]
    rcases r with r | ⟨o, r⟩
    · rw [r]
      left
      cases u with
      | dK k => exact absurd rfl (hp k)
      | frz o k => exact absurd rfl (hf o k)
      | _ => rfl
    · right
      refine ⟨o, ?_⟩
      rw [r]
      cases u with
      | dK k => exact absurd rfl (hp k)
      | _ => rfl
  · unfold Rd
    rw [ulv_ne e]; exact r
theorem Rd.lkD {a : Addr} (r : Rd H a (.dK kvs)) : Rd (lkv d od H) a (.dK kvs) := by
  by_cases e : a = d
  · subst e
    unfold Rd lkv
    rw [if_pos rfl]
    rcases r with r | ⟨o, r⟩
    · right; exact ⟨od, by rw [r]⟩
    · right; exact ⟨o, by rw [r]⟩
  · unfold Rd
    rw [lkv_ne e]; exact r
theorem Rd.ulD {a : Addr} (r : Rd H a (.dK kvs)) : Rd (ulv d H) a (.dK kvs) := by
  by_cases e : a = d
  · subst e
    unfold Rd ulv
    rw [if_pos rfl]
    rcases r with r | ⟨o, r⟩
    · left; rw [r]
    · left; rw [r]
  · unfold Rd
    rw [ulv_ne e]; exact r
end
mutual
/-- no dict in it -/
def noD : PyData → Bool
  | .list ds => noDs ds
  | .dict _ => false
  | .tuple ds => noDs ds
  | _ => true
def noDs : List PyData → Bool
  | [] => true
  | d :: ds => noD d && noDs ds
end
mutual
theorem Rp.noD {G G' : Hp} (e : ∀ a u, (∀ k, u ≠ HO.dK k) → (∀ o k, u ≠ HO.frz o k) → Rd G a u → Rd G' a u) : ∀ (d : PyData) (v : V), Ck.noD d = true → Rp G v d → Rp G' v d
  | .none, _, _, h => by cases h; exact .non
  | .bool b, _, _, h => by cases h; exact .bl b
  | .int i, _, _, h => by cases h; exact .int i
  | .str x, _, _, h => by cases h; exact .str x
  | .list ds, _, c, h => by
    cases h with
    | lst h1 h2 => exact .lst (e _ _ (fun _ z => by cases z) (fun _ _ z => by cases z) h1) (Rps.noD e ds _ (by simpa only [Ck.noD] using c) h2)
  | .tuple ds, _, c, h => by
    cases h with
    | tup h1 h2 => exact .tup (e _ _ (fun _ z => by cases z) (fun _ _ z => by cases z) h1) (Rps.noD e ds _ (by simpa only [Ck.noD] using c) h2)
  | .dict ps, _, c, h => by simp [Ck.noD] at c
theorem Rps.noD {G G' : Hp} (e : ∀ a u, (∀ k, u ≠ HO.dK k) → (∀ o k, u ≠ HO.frz o k) → Rd G a u → Rd G' a u) : ∀ (ds : List PyData) (vs : List V), noDs ds = true → Rps G vs ds → Rps G' vs ds
  | [], _, _, h => by cases h; exact .nil
  | d :: ds, _, c, h => by
    cases h with
    | cons h1 h2 =>
      have c' : Ck.noD d = true ∧ noDs ds = true := by simpa only [noDs, Bool.and_eq_true] using c
      exact .cons (Rp.noD e d _ c'.1 h1) (Rps.noD e ds _ c'.2 h2)
end
def lkOk : Sl → Bool
  | .d x => noD x
  | .own ds => noDs ds
  | .sn x => noD x
  | .gx _ => false
  | .oa _ ds => noDs ds
  | _ => true
/-- what changes at d alone, from a dict to a locked one or back -/
theorem SlOk.at_ {d : Addr} {G G' H H' : Hp} {o : Option (Option V)} {f : List Addr} {s : Sl} (h : SlOk G H o f s) (hl : lkOk s = true) (hq : ∀ a ∈ f, H' a = H a)
    (eT : ∀ a u, (∀ k, u ≠ HO.dK k) → (∀ o k, u ≠ HO.frz o k) → Rd G a u → Rd G' a u) (eD : ∀ a kvs, Rd G a (.dK kvs) → Rd G' a (.dK kvs)) : SlOk G' H' o f s := by
  have eU : ∀ a xs, Rd G a (.tup xs) → Rd G' a (.tup xs) := fun a xs => eT a _ (fun _ z => by cases z) (fun _ _ z => by cases z)
  cases s with
  | un => trivial
  | d x => obtain ⟨v, e1, r⟩ := h; exact ⟨v, e1, Rp.noD eT x v hl r⟩
  | ex a => exact h
  | own ds => obtain ⟨a, vs, e1, m, hh, r⟩ := h; exact ⟨a, vs, e1, m, (hq a m).trans hh, Rps.noD eT ds vs hl r⟩
  | ownD kvs => obtain ⟨a, e1, m, hh⟩ := h; exact ⟨a, e1, m, (hq a m).trans hh⟩
  | ow x => obtain ⟨v, g, e1, r, nd, m⟩ := h; exact ⟨v, g, e1, r.fr eU _ _ _ fun a ha => hq a (m a ha), nd, m⟩
  | dl kvs => obtain ⟨a, e1, r⟩ := h; exact ⟨a, e1, eD a _ r⟩
  | sn x => obtain ⟨p, a, vx, e1, r, rx⟩ := h; exact ⟨p, a, vx, e1, eU p _ r, Rp.noD eT x vx hl rx⟩
  | gx φ => cases hl
  | oa a ds => obtain ⟨vs, e1, m, hh, r⟩ := h; exact ⟨vs, e1, m, (hq a m).trans hh, Rps.noD eT ds vs hl r⟩
  | ov v x => obtain ⟨g, e1, r, nd, m⟩ := h; exact ⟨g, e1, r.fr eU _ _ _ fun a ha => hq a (m a ha), nd, m⟩
section
variable {d : Addr} {od : Obj} {B : Bs} {G H : Hp} {σ : L2.St} {Γ : List Sl} {F : Nat → List Addr} {kvs : List (Key × V)}
theorem OkF.lk (k : OkF B G σ H Γ F) (hd : G d ≠ none) (hl : ∀ s ∈ Γ, lkOk s = true) : OkF ⟨lkv d od B.gb, lkv d od B.g0, lkv d od B.h0⟩ (lkv d od G) σ (lkv d od H) Γ F := by
  have ne : ∀ i a, a ∈ F i → a ≠ d := fun i a m z => hd (z ▸ (k.fr i a m).2.1)
  exact ⟨k.eb.lk, k.st.lk, k.len, fun i s e => (k.sl i s e).at_ (d := d) (hl s (List.mem_of_getElem? e)) (fun a m => lkv_ne (ne i a m)) (fun a u h1 _ r => Rd.lkT h1 r) (fun a _ r => Rd.lkD r),
    fun i a m => ⟨lkv_none.mpr (k.fr i a m).1, lkv_none.mpr (k.fr i a m).2.1, (k.fr i a m).2.2.of (lkv_ne (ne i a m))⟩, k.ap⟩
theorem OkF.ul (k : OkF ⟨lkv d od B.gb, lkv d od B.g0, lkv d od B.h0⟩ G σ H Γ F) (hd : G d ≠ none) (hl : ∀ s ∈ Γ, lkOk s = true) (hb : B.gb d = none ∨ B.gb d = some (.dK kvs)) (h0 : B.g0 d = none ∨ B.g0 d = some (.dK kvs)) (h1 : B.h0 d = none ∨ B.h0 d = some (.dK kvs)) : OkF B (ulv d G) σ (ulv d H) Γ F := by
  have ne : ∀ i a, a ∈ F i → a ≠ d := fun i a m z => hd (z ▸ (k.fr i a m).2.1)
  have eb := k.eb.ul (d := d)
  have st := k.st.ul (d := d)
  dsimp only at eb st
  rw [ul_lk hb] at eb
  rw [ul_lk h0, ul_lk h1] at st
  exact ⟨eb, st, k.len, fun i s e => (k.sl i s e).at_ (d := d) (hl s (List.mem_of_getElem? e)) (fun a m => ulv_ne (ne i a m)) (fun a u h1 h2 r => Rd.ulT h1 h2 r) (fun a _ r => Rd.ulD r),
    fun i a m => ⟨lkv_none.mp (k.fr i a m).1, ulv_none.mpr (k.fr i a m).2.1, (k.fr i a m).2.2.of (ulv_ne (ne i a m))⟩, k.ap⟩
end
section
variable {B : Bs} {Γ : List Sl} {nx bk ct : L2.St → Hp → Prop} {rt : VK} {t : TS} {ds : List PyData} {j : Nat}
/-- for, from one state -/
theorem at_for0 {wi : TI} {G : Hp} {σ : L2.St} {H : Hp} (ok : Ok B G σ H Γ) (I : Nat → List Sl) (P : Nat → Prop) (hi : ∀ R : It → Hp → Prop, (∀ J G' H', Stp G H G' H' → ItD J G' ds → R J H') → wi σ H R) (h0 : Wk (I 0) Γ) (p0 : P 0)
    (hs : ∀ (gb : Hp) (i : Nat) (d : PyData) (N : L2.St → Hp → Prop), ds[i]? = some d → P i → (P (i + 1) → At ⟨gb, B.g0, B.h0⟩ (I (i + 1)) N) → At ⟨gb, B.g0, B.h0⟩ ((I i).set j (.d d)) (t ⟨N, rt, nx, N⟩))
    (he : P ds.length → ∀ G' σ' H', Ex G G' → Ok B G' σ' H' (I ds.length) → nx σ' H') : tFor wi (gName j) t ⟨nx, rt, bk, ct⟩ σ H := hi _ fun J G1 H1 s1 it => by
  refine ⟨fun i m σ2 H2 => m = ds.length - i ∧ i ≤ ds.length ∧ P i ∧ ∃ G2, Ex G1 G2 ∧ Ok B G2 σ2 H2 (I i), ⟨ds.length, by simp, Nat.zero_le _, p0, G1, Ex.rfl' G1, (ok.step s1).weak h0.len h0.get⟩, ?_⟩
  rintro i m σ2 H2 ⟨rfl, hil, pi, G2, e2, ok2⟩
  by_cases hlt : i < ds.length
  · have hget : ds[i]? = some ds[i] := List.getElem?_eq_getElem hlt
    refine .inr ⟨it.go i H2 hlt (e2.tr ok2.gh), fun σ' H' => P (i + 1) ∧ ∃ G', Ex G1 G' ∧ Ok B G' σ' H' (I (i + 1)), fun σ' H' h' => ⟨ds.length - (i + 1), by omega, rfl, hlt, h'⟩, fun x H' hy => ?_⟩
    obtain ⟨rfl, rx⟩ := it.yld i H2 x H' _ hget (e2.tr ok2.gh) hy
    have ok3 := ok2.setD j (v := x) (rx.up e2)
    refine hs G2 i _ (fun σ' H' => P (i + 1) ∧ ∃ G', Ex G1 G' ∧ Ok B G' σ' H' (I (i + 1))) hget pi (fun p1 G' σ' H' ok' => ⟨p1, G', e2.tr ok'.eb, ok'.reb (ok2.eb.tr ok'.eb)⟩) G2 _ H' (ok3.reb (Ex.rfl' G2))
  · have e : i = ds.length := by omega
    subst e
    exact .inl ⟨it.stop H2 (e2.tr ok2.gh), he pi G2 σ2 H2 (s1.g.tr e2) ok2⟩
/-- for k in d -/
theorem at_forK {i : Nat} {kvs : List (Str × Int)} (e : Γ[i]? = some (.d (.dict (kvs.map kvD)))) (I : Nat → List Sl) (P : Nat → Prop) (h0 : Wk (I 0) (Γ.set i (.dl kvs))) (p0 : P 0) (hl0 : ∀ s ∈ I 0, lkOk s = true) (hl : ∀ s ∈ I kvs.length, lkOk s = true) (hI : (I 0)[i]? = some (.dl kvs))
    (hs : ∀ (B' : Bs) (n : Nat) (p : Str × Int) (N nx' : L2.St → Hp → Prop) (rt' : VK), kvs[n]? = some p → P n → (P (n + 1) → At B' (I (n + 1)) N) → At B' ((I n).set j (.d (.str p.1))) (t ⟨N, rt', nx', N⟩))
    (he : P kvs.length → At B (I kvs.length) nx) : At B Γ (tLock (tFor (iKeys (tVar i)) (gName j) t) ⟨nx, rt, bk, ct⟩) := fun G σ H ok => by
  obtain ⟨v, e1, r⟩ := ok.dat e
  obtain ⟨a, ks, rfl, hg, rfl⟩ := r.dict (H := H)
  have hh := ok.gh _ _ hg
  refine ⟨a, _, hh, trivial, fun od => ?_⟩
  rw [← lkv_at (od := od) hh]
  have cond : ∀ {X : Hp}, Ex X H → X a = none ∨ X a = some (.dK (ks.map kvI)) := fun {X} ex => by
    cases q : X a with
    | none => exact .inl rfl
    | some o =>
      have := ex a o q
      rw [hh] at this
      exact .inr this.symm
  have hB := ok.st
  have heb := ok.eb
  obtain ⟨F, k⟩ := ok
  have kd : OkF B G σ H (Γ.set i (.dl ks)) F := by
    refine ⟨k.eb, k.st, by rw [List.length_set]; exact k.len, fun m s es => ?_, k.fr, k.ap⟩
    by_cases hm : i = m
    · subst hm
      have hi : i < Γ.length := (List.getElem?_eq_some_iff.mp e).1
      rw [List.getElem?_set_self hi] at es
      cases es
      exact ⟨a, e1, .inl hg⟩
    · rw [List.getElem?_set_ne hm] at es
      exact k.sl m s es
  have kw : Ok B G σ H (I 0) := Ok.weak ⟨F, kd⟩ h0.len h0.get
  obtain ⟨F2, k2⟩ := kw
  have kl := k2.lk (d := a) (od := od) (by rw [hg]; exact fun z => by cases z) hl0
  have gl : lkv a od G a = some (.frz od (.dK (ks.map kvI))) := by rw [lkv_at hg, upd_same]
  have hl' : lkv a od H a = some (.frz od (.dK (ks.map kvI))) := by rw [lkv_at hh, upd_same]
  refine at_for0 (B := ⟨lkv a od B.gb, lkv a od B.g0, lkv a od B.h0⟩) (ds := (ks.map (·.1)).map .str) ⟨F2, kl⟩ I P (fun R q => ?_) ?_ p0 (fun gb n d N hd hp hN => ?_) (fun hp G' σ' H' ex ok' => ?_)
  · refine ⟨.ref a, e1, a, od, rfl, .inl ⟨_, hl', q _ _ _ (Stp.rfl' kl.st.gh) ⟨fun H ex => ⟨ex _ _ gl, by simp⟩, fun n H hn ex => ⟨ex _ _ gl, by simpa using hn⟩, fun n H x H' d hd ex y => ?_⟩⟩⟩
    obtain ⟨rfl, kk, vv, hk, rfl⟩ := y
    rw [List.getElem?_map] at hk
    rw [List.getElem?_map, List.getElem?_map] at hd
    cases hq : ks[n]? with
    | none => rw [hq] at hk; cases hk
    | some p =>
      rw [hq] at hk hd
      cases hk
      cases hd
      exact ⟨rfl, .str _⟩
  · have : ∀ l : List Sl, Wk l l := fun l => by
      induction l with
      | nil => exact .nil
      | cons a b ih => exact .same ih
    exact this _
  · rw [List.getElem?_map, List.getElem?_map] at hd
    cases hq : ks[n]? with
    | none => rw [hq] at hd; cases hd
    | some p =>
      rw [hq] at hd
      cases hd
      exact hs _ n p N _ _ hq hp hN
  · have e9 : ((ks.map (·.1)).map PyData.str).length = ks.length := by simp
    rw [e9] at ok' hp
    have gd := ex _ _ gl
    have hd := ok'.gh _ _ gd
    refine ⟨hd, ?_⟩
    rw [← ulv_at hd]
    obtain ⟨F3, k3⟩ := ok'
    exact he hp _ _ _ ⟨F3, k3.ul (by rw [gd]; exact fun z => by cases z) hl (cond (heb.tr hB.gh)) (cond ((hB.g).tr hB.gh)) (cond hB.h)⟩
end
end Ck

namespace Ck
open PySem PySem.Spec PyProof.Rows L2
/-! ### done_by, plainly -/
def doneS (kvs : List (Str × Int)) (w k : Str) (v : Int) : List (Str × Int) :=
  if w = "put" then putS kvs k v else if w = "away" then dropS kvs k else if w = "add" ∨ valD kvs k = none then putS kvs k ((valD kvs k).getD 0 + v) else kvs
def doneA (kvs : List (Str × Int)) (w k : Str) (v : Int) : Option Int := if w = "put" ∨ w = "away" then valD kvs k else valD (doneS kvs w k v) k
abbrev dictD (kvs : List (Str × Int)) : PyData := .dict (kvs.map kvD)
def doneT (kvs : List (Str × Int)) (w k : Str) (v : Int) : PyData := .tuple [dictD (doneS kvs w k v), optI (doneA kvs w k v)]
theorem valD_put (kvs : List (Str × Int)) (k : Str) (v : Int) : valD (putS kvs k v) k = some v := by
  have h := valV_put (kvs.map kvI) (Sum.inr k : Key) (Sum.inr k) (.int v)
  rw [putK_data, valV_data, if_pos rfl] at h
  cases e : valD (putS kvs k v) k with
  | none => rw [e] at h; cases h
  | some x => rw [e] at h; cases h; rfl
def R_done_by (ds : List PyData) (o : Oc) : Prop := ∃ (kvs : List (Str × Int)) (a t v : Int) (w k : Str), ds = [dictD kvs, .tuple [.int a, .int t, .str w, .str k, .int v]] ∧ PyData.strOk w = true ∧ kvs.length ≤ 1000 ∧ o = .ok (doneT kvs w k v)
theorem isNon_opt {o : Option Int} : isNonD (optI o) = o.isNone := by cases o <;> rfl
section
variable {K : PySem.W.Frag} {Γ : List Sl} {ta tb : TE} {E : XK}
theorem em_done_by {kvs : List (Str × Int)} {a t v : Int} {w k : Str} (h1 : Ev ta Γ (dictD kvs)) (h2 : Ev tb Γ (.tuple [.int a, .int t, .str w, .str k, .int v])) (hw : PyData.strOk w = true) (hz : kvs.length ≤ 1000) : EvM (tCall (spW WO K 2 R_done_by) [] E (tCons ta (tCons tb tNil))) Γ [] (doneT kvs w k v) :=
  em_callW (ea_cons h1 (ea_cons h2 ea_nil)) rfl ⟨kvs, a, t, v, w, k, rfl, hw, hz, rfl⟩
end
theorem putS_len (kvs : List (Str × Int)) (k : Str) (v : Int) : (putS kvs k v).length ≤ kvs.length + 1 := by
  unfold putS
  split
  · rw [List.length_map]; omega
  · rw [List.length_append]; exact Nat.le_refl _
/-- the keys of a dict, each once, good texts -/
structure DkOk (kvs : List (Str × Int)) : Prop where
  nd : (kvs.map (·.1)).Nodup
  ok : ∀ p ∈ kvs, PyData.strOk p.1 = true
theorem dkOk_put {kvs : List (Str × Int)} {k : Str} {v : Int} (h : DkOk kvs) (hk : PyData.strOk k = true) : DkOk (putS kvs k v) := by
  unfold putS
  split
  · refine ⟨?_, fun p hp => ?_⟩
    · rw [List.map_map]
      have e : ((fun x : Str × Int => x.1) ∘ fun p => if p.1 = k then (p.1, v) else p) = (fun p => p.1) := by
        funext p; show (if p.1 = k then (p.1, v) else p).1 = p.1; split <;> rfl
      rw [e]; exact h.nd
    · obtain ⟨x, hx, rfl⟩ := List.mem_map.mp hp
      split
      · exact h.ok x hx
      · exact h.ok x hx
  · rename_i hn
    refine ⟨?_, fun p hp => ?_⟩
    · rw [List.map_append]
      refine List.nodup_append.mpr ⟨h.nd, List.nodup_cons.mpr ⟨fun m => (by cases m), List.nodup_nil⟩, fun a ha b hb e => ?_⟩
      obtain ⟨x, hx, rfl⟩ := List.mem_map.mp ha
      rcases List.mem_singleton.mp hb with rfl
      exact hn (List.any_eq_true.mpr ⟨x, hx, by simpa using e⟩)
    · rcases List.mem_append.mp hp with hp | hp
      · exact h.ok p hp
      · rw [List.mem_singleton.mp hp]; exact hk
theorem dkOk_drop {kvs : List (Str × Int)} {k : Str} (h : DkOk kvs) : DkOk (dropS kvs k) :=
  ⟨h.nd.sublist (List.Sublist.map _ List.filter_sublist), fun p hp => h.ok p (List.mem_filter.mp hp).1⟩
theorem dkOk_done {kvs : List (Str × Int)} {w k : Str} {v : Int} (h : DkOk kvs) (hk : PyData.strOk k = true) : DkOk (doneS kvs w k v) := by
  unfold doneS
  split
  · exact dkOk_put h hk
  · split
    · exact dkOk_drop h
    · split
      · exact dkOk_put h hk
      · exact h
theorem dropS_len (kvs : List (Str × Int)) (k : Str) : (dropS kvs k).length ≤ kvs.length := List.length_filter_le _ _
theorem doneS_len (kvs : List (Str × Int)) (w k : Str) (v : Int) : (doneS kvs w k v).length ≤ kvs.length + 1 := by
  unfold doneS
  split
  · exact putS_len _ _ _
  · split
    · exact Nat.le_trans (dropS_len _ _) (by omega)
    · split
      · exact putS_len _ _ _
      · omega
theorem valD_mem {kvs : List (Str × Int)} (h : (kvs.map (·.1)).Nodup) {p : Str × Int} (hp : p ∈ kvs) : valD kvs p.1 = some p.2 := by
  have e := val_nodup (nodup_kvI h) (kvI p) (List.mem_map.mpr ⟨p, hp, rfl⟩)
  have e2 : valV (kvs.map kvI) (Sum.inr p.1 : Key) = some (.int p.2) := e
  rw [valV_data] at e2
  cases q : valD kvs p.1 with
  | none => rw [q] at e2; cases e2
  | some x => rw [q] at e2; cases e2; rfl
theorem kvD_inj : ∀ {ks ls : List (Str × Int)}, ks.map kvD = ls.map kvD → ks = ls
  | [], [], _ => rfl
  | [], _ :: _, h => by cases h
  | _ :: _, [], h => by cases h
  | (a, b) :: ks, (c, d) :: ls, h => by
    rw [List.map_cons, List.map_cons] at h
    have h1 := List.cons.inj h
    have h2 : (PyData.str a, PyData.int b) = (PyData.str c, PyData.int d) := h1.1
    cases h2
    rw [kvD_inj h1.2]
mutual
theorem roNil {G H : Hp} : ∀ (d : PyData) (v : V) (f : List Addr), noL d = true → Ro G H v d f → f = []
  | .none, _, _, _, h => by cases h; rfl
  | .bool b, _, _, _, h => by cases h; rfl
  | .int i, _, _, _, h => by cases h; rfl
  | .str x, _, _, _, h => by cases h; rfl
  | .list ds, _, _, c, h => by simp [noL] at c
  | .tuple ds, _, _, c, h => by
    cases h with
    | tup h1 h2 => exact rosNil ds _ _ (by simpa only [noL] using c) h2
  | .dict ps, _, _, c, h => by simp [noL] at c
theorem rosNil {G H : Hp} : ∀ (ds : List PyData) (v : List V) (f : List Addr), noLs ds = true → Ros G H v ds f → f = []
  | [], _, _, _, h => by cases h; rfl
  | d :: ds, _, _, c, h => by
    cases h with
    | cons h1 h2 =>
      have c' : noL d = true ∧ noLs ds = true := by simpa only [noLs, Bool.and_eq_true] using c
      rw [roNil d _ _ c'.1 h1, rosNil ds _ _ c'.2 h2]; rfl
end
section
variable {K : PySem.W.Frag} {B : Bs} {G H : Hp} {σ : L2.St} {Γ Γ' : List Sl} {F : Nat → List Addr} {i j : Nat} {kvs : List (Str × Int)} {x : PyData} {nx bk ct : L2.St → Hp → Prop} {rt : VK} {k : Str} {z : Int}
/-- y = t[0], the dict moved out of one's own pair t -/
theorem at_mv0 (e : Γ[i]? = some (.ow (.tuple [dictD kvs, x]))) (hx : noL x = true) (hij : i ≠ j) (q : At B ((Γ.set i (.sn x)).set j (.ownD kvs)) nx) : At B Γ (tAsg (tOp (rIx K) (tVar i) (tC (.int 0))) (gName j) ⟨nx, rt, bk, ct⟩) := fun G σ H ok => by
  obtain ⟨F, h⟩ := ok
  obtain ⟨v, g, e1, r, nd, m⟩ := h.sl i _ e
  cases r with
  | tup h1 h2 =>
    cases h2 with
    | cons ha hb =>
      cases hb with
      | @cons vx _ _ _ fx _ hxx hn =>
        cases hn
        generalize hd : dictD kvs = dd at ha
        cases ha with
        | @dct a ks ps hh hp =>
          have hk : kvs = ks := by
            have : PyData.dict (kvs.map kvD) = .dict ps := hd
            rw [hp] at this
            exact kvD_inj (PyData.dict.inj this)
          subst hk
          rename_i p
          refine ⟨.ref p, e1, .inr (.inl ⟨p, [.ref a, vx], 0, .ref a, rfl, rfl, rd_sqt (h.st.gh.rd h1), atI_cons0, ?_⟩)⟩
          have rx : Rp G vx x := by
            have hfx : ∀ b ∈ fx, G b = H b → True := fun _ _ _ => trivial
            have : ∀ (d : PyData) (v : V) (f : List Addr), noL d = true → Ro G H v d f → Rp G v d := by
              intro d v f hd r
              have hf : ∀ (d : PyData) (v : V) (f : List Addr), noL d = true → Ro G H v d f → f = [] := fun d v f hd r => roNil d v f hd r
              have e := hf d v f hd r
              subst e
              exact r.rp (fun _ _ z => z) _ _ _ fun _ m => by cases m
            exact this x vx fx hx hxx
          have hma := m a List.mem_cons_self
          have hi : i < Γ.length := (List.getElem?_eq_some_iff.mp e).1
          refine q G _ H ?_
          have h3 : OkF B G σ H (Γ.set i (.sn x)) (fun n => if n = i then [] else F n) := by
            refine ⟨h.eb, h.st, by rw [List.length_set]; exact h.len, fun n s es => ?_, fun n b mb => ?_, fun n l b hne m1 m2 => ?_⟩
            · by_cases hn : i = n
              · subst hn
                rw [List.getElem?_set_self hi] at es
                cases es
                exact ⟨p, a, vx, e1, h1, rx⟩
              · rw [List.getElem?_set_ne hn] at es
                rw [if_neg (Ne.symm hn)]
                exact h.sl n s es
            · by_cases hn : n = i
              · rw [if_pos hn] at mb; cases mb
              · rw [if_neg hn] at mb; exact h.fr n b mb
            · by_cases hn : n = i
              · rw [if_pos hn] at m1; cases m1
              · rw [if_neg hn] at m1
                by_cases hl : l = i
                · rw [if_pos hl] at m2; cases m2
                · rw [if_neg hl] at m2; exact h.ap n l b hne m1 m2
          have hfr := h.fr i a hma
          exact ⟨_, h3.setF j (v := some (.ref a)) (f := [a]) ⟨a, rfl, List.mem_cons_self, hh⟩ (fun b mb => by
            rcases List.mem_cons.mp mb with rfl | mb
            · exact hfr
            · cases mb) fun b mb n hn mn => by
            rcases List.mem_cons.mp mb with rfl | mb
            · by_cases hni : n = i
              · rw [if_pos hni] at mn; cases mn
              · rw [if_neg hni] at mn; exact h.ap i n b (Ne.symm hni) hma mn
            · cases mb⟩
        | _ => cases hd
/-- t[1] then -/
theorem ev_sn (e : Γ[i]? = some (.sn x)) : Ev (tOp (rIx K) (tVar i) (tC (.int 1))) Γ x := fun B G σ H ok Q q => by
  obtain ⟨F, h⟩ := ok
  obtain ⟨p, a, vx, e1, r, rx⟩ := h.sl i _ e
  exact ⟨.ref p, e1, .inr (.inl ⟨p, [.ref a, vx], 1, vx, rfl, rfl, rd_sqt (h.st.gh.rd r), atI_of (i := 1) rfl, q vx G H (Stp.rfl' h.st.gh) rx⟩)⟩
end
/-- what one plain keeper makes of deeds -/
def plainN (ds : List Dd) : Nat → List (Str × Int)
  | 0 => []
  | n + 1 => match ds[n]? with
    | some d => doneS (plainN ds n) d.w d.k d.v
    | none => plainN ds n
def plainA (ds : List Dd) (n : Nat) : Option Int := match ds[n]? with
  | some d => doneA (plainN ds n) d.w d.k d.v
  | none => none
def plainS (ds : List Dd) : List (Str × Int) := plainN ds ds.length
def answersOf (ds : List Dd) : List (Option Int) := (List.range ds.length).map (plainA ds)
def plainT (ds : List Dd) : PyData := .tuple [dictD (plainS ds), .list ((answersOf ds).map optI)]
theorem plainN_len (ds : List Dd) : ∀ n, (plainN ds n).length ≤ n
  | 0 => Nat.le_refl 0
  | n + 1 => by
    have h := plainN_len ds n
    unfold plainN
    split
    · exact Nat.le_trans (doneS_len _ _ _ _) (by omega)
    · omega
def R_plainly (ds : List PyData) (o : Oc) : Prop := ∃ l : List Dd, ds = [.list (l.map Dd.e)] ∧ l.length ≤ 1000 ∧ (∀ d ∈ l, d.ok) ∧ o = .ok (plainT l)
end Ck
namespace Ck
open PySem PySem.Spec PyProof.Rows L2
/-! ### _law_alike: of a thing and itself, by depth -/
def Alk : Nat → PyData → Prop
  | 0, _ => False
  | n + 1, .list ds => ds.length ≤ 1000 ∧ ∀ y ∈ ds, Alk n y
  | n + 1, .tuple ds => ds.length ≤ 1000 ∧ ∀ y ∈ ds, Alk n y
  | _ + 1, .dict _ => False
  | _ + 1, .str z => PyData.strOk z = true
  | _ + 1, _ => True
def R_alike (n : Nat) (ds : List PyData) (d : PyData) : Prop := ∃ x, ds = [x, x] ∧ Alk n x ∧ d = .bool true
theorem mkF0 {P : Program} {w : World} {K : PySem.W.Frag} {mg : Str → Option Value} {base : Heap} {x : Str} {st : Stmt} {ps : List Str} {n : Nat} {R : List PyData → PyData → Prop} (h : Has K mg x st) (hb : BindsP x st ps) (hR : ∀ ds d, ¬ R ds d) : Def P w K mg base CX0 0 x ps (spP n R) := by
  obtain ⟨f, fd, F, g⟩ := h
  have no : ∀ {vs : List V} {H : Hp} {Q : VK} {E : XK}, spP n R vs H Q E → False := fun ⟨ds, d, _, _, _, _, r, _⟩ => hR ds d r
  obtain ⟨oc, od, _, _, _, _, _, _, _, osl, _, lk, _⟩ := F.ex
  exact ⟨f, fd, g, F.kp, F.bindsN hb, ⟨fun vs H Q E z => (no z).elim, fun _ _ _ _ _ _ _ _ _ _ _ _ _ z => (no z).elim⟩, oc, od, osl, lk⟩
end Ck

namespace Ck
open PySem PySem.Spec PyProof.Rows L2

/-! ### arguments that are one's own, and what is used up -/
def unS (S : List Nat) (Γ : List Sl) : List Sl := S.foldl (fun Γ i => Γ.set i .un) Γ
theorem unS_len (S : List Nat) : ∀ Γ : List Sl, (unS S Γ).length = Γ.length := by
  induction S with
  | nil => exact fun _ => rfl
  | cons j S ih =>
    intro Γ
    show (unS S (Γ.set j .un)).length = _
    rw [ih, List.length_set]
theorem unS_in (S : List Nat) : ∀ (Γ : List Sl) (i : Nat) (s : Sl), i ∈ S → (unS S Γ)[i]? = some s → s = .un := by
  induction S with
  | nil => intro _ _ _ h; cases h
  | cons j S ih =>
    intro Γ i s hi e
    have e' : (unS S (Γ.set j .un))[i]? = some s := e
    by_cases hs : i ∈ S
    · exact ih _ i s hs e'
    · have hij : i = j := by
        rcases List.mem_cons.mp hi with h | h
        · exact h
        · exact absurd h hs
      subst hij
      clear ih hi e
      have key : ∀ (S : List Nat) (Γ : List Sl), i ∉ S → (unS S Γ)[i]? = Γ[i]? := by
        intro S
        induction S with
        | nil => intro _ _; rfl
        | cons k S ih =>
          intro Γ h
          show (unS S (Γ.set k .un))[i]? = _
          rw [ih _ fun z => h (List.mem_cons_of_mem _ z), List.getElem?_set_ne fun z => h (List.mem_cons.mpr (.inl z.symm))]
      rw [key S _ hs] at e'
      by_cases hl : i < Γ.length
      · rw [List.getElem?_set_self hl] at e'
        cases e'; rfl
      · rw [List.getElem?_eq_none (by rw [List.length_set]; omega)] at e'
        cases e'
theorem unS_no (S : List Nat) : ∀ (Γ : List Sl) (i : Nat), i ∉ S → (unS S Γ)[i]? = Γ[i]? := by
  induction S with
  | nil => intro _ _ _; rfl
  | cons k S ih =>
    intro Γ i h
    show (unS S (Γ.set k .un))[i]? = _
    rw [ih _ i fun z => h (List.mem_cons_of_mem _ z), List.getElem?_set_ne fun z => h (List.mem_cons.mpr (.inl z.symm))]
section
open Classical
variable {B : Bs} {G H G' H' h0 : Hp} {σ : L2.St} {Γ : List Sl} {F : Nat → List Addr} {S : List Nat}
noncomputable def fS (S : List Nat) (F : Nat → List Addr) : Nat → List Addr := fun i => if i ∈ S then [] else F i
/-- what is at S is used up -/
theorem OkF.used (k : OkF B G σ H Γ F) (hG : Ex G h0) (hB : Ex B.h0 h0) (hs : ∀ i, i ∉ S → ∀ a ∈ F i, h0 a = H a) (s : Stp G h0 G' H') : OkF B G' σ H' (unS S Γ) (fS S F) := by
  have p0 : Stp B.g0 B.h0 G h0 := ⟨k.st.g, hB, hG, k.st.nw⟩
  have key : ∀ i, i ∉ S → ∀ a ∈ F i, H' a = H a := fun i hi a m => by
    obtain ⟨o, q⟩ := (k.fr i a m).2.2.some
    have q0 : h0 a = some o := (hs i hi a m).trans q
    rw [s.h a o q0, q]
  refine ⟨k.eb.tr s.g, p0.tr s, by rw [unS_len]; exact k.len, fun i t e => ?_, fun i a m => ?_, fun i j a hne m1 m2 => ?_⟩
  · by_cases hi : i ∈ S
    · rw [unS_in S Γ i t hi e]; trivial
    · rw [unS_no S Γ i hi] at e
      show SlOk G' H' σ[i]? (if i ∈ S then [] else F i) t
      rw [if_neg hi]
      exact (k.sl i t e).fr s.g (key i hi)
  · have m' : a ∈ (if i ∈ S then [] else F i) := m
    by_cases hi : i ∈ S
    · rw [if_pos hi] at m'; cases m'
    · rw [if_neg hi] at m'
      obtain ⟨b0, bg, bm⟩ := k.fr i a m'
      obtain ⟨o, q⟩ := bm.some
      exact ⟨b0, s.nw a o ((hs i hi a m').trans q) bg, bm.of (key i hi a m')⟩
  · have m1' : a ∈ (if i ∈ S then [] else F i) := m1
    have m2' : a ∈ (if j ∈ S then [] else F j) := m2
    by_cases hi : i ∈ S
    · rw [if_pos hi] at m1'; cases m1'
    · by_cases hj : j ∈ S
      · rw [if_pos hj] at m2'; cases m2'
      · rw [if_neg hi] at m1'
        rw [if_neg hj] at m2'
        exact k.ap i j a hne m1' m2'
theorem fS_in {i : Nat} {a : Addr} (m : a ∈ fS S F i) : i ∉ S ∧ a ∈ F i := by
  have m' : a ∈ (if i ∈ S then [] else F i) := m
  by_cases hi : i ∈ S
  · rw [if_pos hi] at m'; cases m'
  · rw [if_neg hi] at m'; exact ⟨hi, m'⟩
/-- a heap less all that is owned -/
noncomputable def hLess (F : Nat → List Addr) (H : Hp) : Hp := fun a => if ∃ i, a ∈ F i then none else H a
theorem hLess_no {a : Addr} (h : ∀ i, a ∉ F i) : hLess F H a = H a := if_neg fun ⟨i, m⟩ => h i m
theorem hLess_in {i : Nat} {a : Addr} (h : a ∈ F i) : hLess F H a = none := if_pos ⟨i, h⟩
theorem hLess_ex : Ex (hLess F H) H := fun a o q => by
  unfold hLess at q
  by_cases h : ∃ i, a ∈ F i
  · rw [if_pos h] at q; cases q
  · rw [if_neg h] at q; exact q
theorem OkF.exLess (k : OkF B G σ H Γ F) {X : Hp} (hx : Ex X H) (hn : ∀ i, ∀ a ∈ F i, X a = none) : Ex X (hLess F H) := fun a o q => by
  rw [hLess_no fun i m => by rw [hn i a m] at q; cases q]
  exact hx a o q
theorem OkF.rebase (k : OkF B G σ H Γ F) : OkF ⟨G, G, hLess F H⟩ G σ H Γ F :=
  ⟨Ex.rfl' G, ⟨Ex.rfl' G, hLess_ex, k.st.gh, fun _ _ _ h => h⟩, k.len, k.sl, fun i a m => ⟨hLess_in m, (k.fr i a m).2⟩, k.ap⟩
theorem OkF.stLess (k : OkF B G σ H Γ F) : Stp B.g0 B.h0 G (hLess F H) := ⟨k.st.g, k.exLess k.st.h fun i a m => (k.fr i a m).1, k.exLess k.st.gh fun i a m => (k.fr i a m).2.1, k.st.nw⟩
theorem OkF.unbase {σ' : L2.St} {Γ' : List Sl} {F' : Nat → List Addr} {Hb : Hp} (hb : Ex B.gb G) (st : Stp B.g0 B.h0 G Hb) (k : OkF ⟨G, G, Hb⟩ G' σ' H' Γ' F') : OkF B G' σ' H' Γ' F' :=
  ⟨hb.tr k.eb, st.tr k.st, k.len, k.sl, fun i a m => ⟨st.h.no (k.fr i a m).1, (k.fr i a m).2⟩, k.ap⟩
/-- an address that is nobody's is changed -/
theorem OkF.other (k : OkF B G σ H Γ F) {D : Addr} {o : HO} (hD : ∀ i, D ∉ F i) (hg : G D = none) (h0 : B.h0 D = none) : OkF B G σ (upd H D o) Γ F := by
  refine ⟨k.eb, ⟨k.st.g, fun a u q => ?_, fun a u q => ?_, k.st.nw⟩, k.len, fun i s e => (k.sl i s e).fr (Ex.rfl' G) fun a m => upd_ne fun z => hD i (by rw [← z]; exact m), fun i a m => ⟨(k.fr i a m).1, (k.fr i a m).2.1, (k.fr i a m).2.2.of (upd_ne fun z => hD i (by rw [← z]; exact m))⟩, k.ap⟩
  · rw [upd_ne (ne_of_none q h0)]; exact k.st.h a u q
  · rw [upd_ne (ne_of_none q hg)]; exact k.st.gh a u q
/-- an address that is nobody's is handed over -/
theorem OkF.giveA (k : OkF B G σ H Γ F) {D : Addr} {o : HO} (hD : ∀ i, D ∉ F i) (hg : G D = none) (h0 : B.h0 D = none) (hh : H D = some o) : OkF B (upd G D o) σ H Γ F := by
  have eg : Ex G (upd G D o) := Ex.new hg
  exact ⟨k.eb.tr eg, k.st.give h0 hg hh, k.len, fun i s e => (k.sl i s e).fr eg fun _ _ => rfl, fun i a m => ⟨(k.fr i a m).1, by rw [upd_ne fun z => hD i (by rw [← z]; exact m)]; exact (k.fr i a m).2.1, (k.fr i a m).2.2⟩, k.ap⟩
end
/-! ### expressions with an effect: from the slots Γ to Γ' -/
def EvP (te : TE) (Γ Γ' : List Sl) (d : PyData) : Prop := ∀ (B : Bs) (G : Hp) (σ : L2.St) (H : Hp), Ok B G σ H Γ → ∀ Q : VK, (∀ v G' H', Ex G G' → Ok B G' σ H' Γ' → Rp G' v d → Q v H') → te σ H Q
def EvQ (te : TE) (Γ Γ' : List Sl) (d : PyData) : Prop := ∀ (B : Bs) (G : Hp) (σ : L2.St) (H : Hp), Ok B G σ H Γ → ∀ Q : VK,
  (∀ v f G' H' F', OkF B G' σ H' Γ' F' → Ro G' H' v d f → f.Nodup → (∀ a ∈ f, B.h0 a = none ∧ G' a = none ∧ ∀ i, a ∉ F' i) → Q v H') → te σ H Q
section
variable {K : PySem.W.Frag} {B : Bs} {Γ Γ' Γ2 : List Sl} {nx bk ct : L2.St → Hp → Prop} {rt : VK} {te tc ti ta : TE} {d c : PyData} {ds : List PyData} {i j : Nat} {S : List Nat}
theorem Ev.p (h : Ev te Γ d) : EvP te Γ Γ d := fun B G σ H ok Q q => h B G σ H ok Q fun v G' H' s r => q v G' H' s.g (ok.step s) r
theorem evp_is {d' : PyData} (h : EvP te Γ Γ' d) (e : d = d') : EvP te Γ Γ' d' := e ▸ h
theorem EvM.q (h : EvM te Γ S d) : EvQ te Γ (unS S Γ) d := fun B G σ H ok Q q => by
  obtain ⟨F, k⟩ := ok
  refine h B G σ H F k Q fun v f G' H' s r nd m => ?_
  have k2 : OkF B G' σ H' (unS S Γ) (fS S F) := k.used k.st.gh k.st.h (fun _ _ _ _ => rfl) s
  refine q v f G' H' _ k2 r nd fun a ha => ⟨?_, (m a ha).1, fun i hi => ?_⟩
  · rcases (m a ha).2 with z | ⟨l, _, ml⟩
    · exact k.st.h.no z
    · exact (k.fr l a ml).1
  · obtain ⟨hS, hF⟩ := fS_in hi
    rcases (m a ha).2 with z | ⟨l, hl, ml⟩
    · obtain ⟨o, ho⟩ := (k.fr i a hF).2.2.some
      rw [z] at ho; cases ho
    · by_cases e : l = i
      · subst e; exact hS hl
      · exact k.ap l i a e ml hF
theorem at_setP {Γ3 : List Sl} (h : EvP te Γ Γ' d) (hs : SetAt Γ' i (.d d) Γ3) (q : At B Γ3 nx) : At B Γ (tAsg te (gName i) ⟨nx, rt, bk, ct⟩) := fun G σ H ok =>
  h B G σ H ok _ fun v G' H' _ ok' r => q G' _ H' (hs.eq ▸ ok'.setD i r)
theorem at_setQ {Γ3 : List Sl} (h : EvQ te Γ Γ' d) (hs : SetAt Γ' i (.ow d) Γ3) (q : At B Γ3 nx) : At B Γ (tAsg te (gName i) ⟨nx, rt, bk, ct⟩) := fun G σ H ok =>
  h B G σ H ok _ fun v f G' H' F' k r nd m => q G' _ H' (hs.eq ▸ ⟨_, k.setF i (f := f) ⟨v, f, rfl, r, nd, fun a ha => ha⟩ (fun a ha => ⟨(m a ha).1, (m a ha).2.1, r.mt _ _ _ a ha⟩) fun a ha j _ => (m a ha).2.2 j⟩)
theorem at_dropP (h : EvP te Γ Γ' d) (q : At B Γ' nx) : At B Γ (tDrop te ⟨nx, rt, bk, ct⟩) := fun G σ H ok => h B G σ H ok _ fun v G' H' _ ok' r => q G' _ H' ok'
theorem at_rtP (h : EvP te Γ Γ' d) {d' : PyData} (e : d = d') (q : RtOk B rt d') : At B Γ (tRet te ⟨nx, rt, bk, ct⟩) := fun G σ H ok => h B G σ H ok _ fun v G' H' _ ok' r => q v G' H' ok'.st (e ▸ r)
theorem at_rtQ (h : EvQ te Γ Γ' d) {d' : PyData} (e : d = d') (q : RtO B rt d') : At B Γ (tRet te ⟨nx, rt, bk, ct⟩) := fun G σ H ok =>
  h B G σ H ok _ fun v f G' H' F' k r nd m => q v f G' H' k.st (e ▸ r) nd fun a ha => ⟨(m a ha).1, (m a ha).2.1⟩
theorem at_rtQM (h : EvQ te Γ Γ' d) {d' : PyData} (e : d = d') (q : RtOk B rt d') : At B Γ (tRet te ⟨nx, rt, bk, ct⟩) := at_rtQ h e (rtO_of q)
/-- two things, the second with an effect -/
theorem evp_tup2 (h1 : Ev tc Γ c) (h2 : EvP te Γ Γ' d) : EvP (tTup (tCons tc (tCons te tNil))) Γ Γ' (.tuple [c, d]) := fun B G σ H ok Q q =>
  h1 B G σ H ok _ fun v G1 H1 s1 r1 => h2 B G1 σ H1 (ok.step s1) _ fun u G2 H2 e2 ok2 r2 => ⟨by show 2 ≤ sizeLine; decide, fun p hp =>
    q (.ref p) _ _ ((s1.g.tr e2).tr (Ex.new (ok2.gh.no hp))) (ok2.step (Stp.new ok2.gh hp)) (.tup (.inl upd_same) (.cons ((r1.up e2).up (Ex.new (ok2.gh.no hp))) (.cons (r2.up (Ex.new (ok2.gh.no hp))) .nil)))⟩
/-- the value alone is looked at -/
theorem evp_un {r : V → Hp → VK → Prop} {z : PyData} (h : EvP te Γ Γ' d) (hr : RuD r d z) : EvP (tUn r te) Γ Γ' z := fun B G σ H ok Q q =>
  h B G σ H ok _ fun v G1 H1 e1 ok1 r1 => hr G1 H1 v ok1.gh r1 Q fun w G3 H3 s3 r3 => q w G3 H3 (e1.tr s3.g) (ok1.step s3) r3
end
/-! ### arguments -/
def Es1 (te : TE) (Γ : List Sl) (S : List Nat) (s : Sl) : Prop := ∀ (B : Bs) (G : Hp) (σ : L2.St) (H : Hp) (F : Nat → List Addr), OkF B G σ H Γ F → ∀ Q : VK,
  (∀ v f G' H', Stp G H G' H' → SlOk G' H' (some (some v)) f s → (∀ a ∈ f, G' a = none ∧ Mt H' a ∧ (H a = none ∨ ∃ i ∈ S, a ∈ F i)) → Q v H') → te σ H Q
def EvS (ta : TA) (Γ : List Sl) (S : List Nat) (ss : List Sl) : Prop := ∀ (B : Bs) (G : Hp) (σ : L2.St) (H : Hp) (F : Nat → List Addr), OkF B G σ H Γ F → ∀ Q : List V → Hp → Prop,
  (∀ (vs : List V) (f : Nat → List Addr) G' H', Stp G H G' H' → vs.length = ss.length → (∀ i s, ss[i]? = some s → SlOk G' H' (vs[i]?.map some) (f i) s) →
    (∀ i, ∀ a ∈ f i, G' a = none ∧ Mt H' a ∧ (H a = none ∨ ∃ j ∈ S, a ∈ F j)) → (∀ i j a, i ≠ j → a ∈ f i → a ∈ f j → False) → Q vs H') → ta σ H Q
section
variable {K : PySem.W.Frag} {Γ : List Sl} {te : TE} {tr : TA} {d : PyData} {ds : List PyData} {S S1 S2 : List Nat} {s : Sl} {ss : List Sl}
theorem e1_d (h : Ev te Γ d) : Es1 te Γ [] (.d d) := fun B G σ H F k Q q => h B G σ H ⟨F, k⟩ Q fun v G' H' st r => q v [] G' H' st ⟨v, rfl, r⟩ fun _ m => by cases m
theorem e1_m (h : EvM te Γ S d) : Es1 te Γ S (.ow d) := fun B G σ H F k Q q => h B G σ H F k Q fun v f G' H' st r nd m => q v f G' H' st ⟨v, f, rfl, r, nd, fun _ z => z⟩ fun a ha => ⟨(m a ha).1, r.mt _ _ _ a ha, (m a ha).2⟩
theorem e1_N (h : EvN te Γ ds) : Es1 te Γ [] (.own ds) := fun B G σ H F k Q q => h B G σ H ⟨F, k⟩ Q fun a vs G' H' st h0 hg hh r => q (.ref a) [a] G' H' st ⟨a, vs, rfl, List.mem_cons_self, hh, r⟩ fun b hb => by
  rcases List.mem_cons.mp hb with rfl | hb
  · exact ⟨hg, .inl ⟨_, hh⟩, .inl h0⟩
  · cases hb
theorem es_nil : EvS tNil Γ [] [] := fun B G σ H F k Q q => q [] (fun _ => []) G H (Stp.rfl' k.st.gh) rfl (fun i s e => by simp at e) (fun i a m => by cases m) (fun i j a _ m => by cases m)
theorem es_cons (h : Es1 te Γ S1 s) (hr : EvS tr Γ S2 ss) (hd : ∀ i ∈ S1, i ∉ S2) : EvS (tCons te tr) Γ (S1 ++ S2) (s :: ss) := fun B G σ H F k Q q =>
  h B G σ H F k _ fun v f G1 H1 s1 r1 m1 => hr B G1 σ H1 F (k.step s1) _ fun vs g G2 H2 s2 hl r2 m2 ap2 => by
    have key : ∀ a ∈ f, H2 a = H1 a := fun a ha => (m1 a ha).2.1.ex s2.h
    have cross : ∀ i a, a ∈ f → a ∈ g i → False := fun i a ha hb => by
      obtain ⟨o, ho⟩ := (m1 a ha).2.1.some
      rcases (m2 i a hb).2.2 with z | ⟨j, hj, mj⟩
      · rw [z] at ho; cases ho
      · rcases (m1 a ha).2.2 with z | ⟨l, hl, ml⟩
        · obtain ⟨o, ho⟩ := (k.fr j a mj).2.2.some
          rw [z] at ho; cases ho
        · by_cases e : l = j
          · subst e; exact hd l hl hj
          · exact k.ap l j a e ml mj
    refine q (v :: vs) (fun i => match i with | 0 => f | i + 1 => g i) G2 H2 (s1.tr s2) (by rw [List.length_cons, List.length_cons, hl]) (fun i t e => ?_) (fun i a ha => ?_) (fun i j a hne ha hb => ?_)
    · cases i with
      | zero =>
        cases e
        exact r1.fr s2.g key
      | succ i => exact r2 i t (by simpa using e)
    · cases i with
      | zero =>
        have ha' : a ∈ f := ha
        obtain ⟨o, ho⟩ := (m1 a ha').2.1.some
        refine ⟨s2.nw a o ho (m1 a ha').1, (m1 a ha').2.1.of (key a ha'), ?_⟩
        rcases (m1 a ha').2.2 with z | ⟨l, hl, ml⟩
        · exact .inl z
        · exact .inr ⟨l, List.mem_append_left _ hl, ml⟩
      | succ i =>
        have ha' : a ∈ g i := ha
        refine ⟨(m2 i a ha').1, (m2 i a ha').2.1, ?_⟩
        rcases (m2 i a ha').2.2 with z | ⟨l, hl, ml⟩
        · exact .inl (s1.h.no z)
        · exact .inr ⟨l, List.mem_append_right _ hl, ml⟩
    · cases i with
      | zero =>
        cases j with
        | zero => exact hne rfl
        | succ j => exact cross j a ha hb
      | succ i =>
        cases j with
        | zero => exact cross i a hb ha
        | succ j => exact ap2 i j a (fun z => hne (congrArg _ z)) ha hb
theorem es_d {x : PyData} (h : Ev te Γ x) (hr : EvS tr Γ S ss) : EvS (tCons te tr) Γ S (.d x :: ss) := es_cons (S1 := []) (e1_d h) hr fun _ z => by cases z
end
/-! ### promises with arguments of one's own -/
def spG (W : WK) (K : PySem.W.Frag) (n : Nat) (R : List Sl → Oc → Prop) : Sp := fun vs H Q E => ∃ ss o G h0 f, vs.length = n ∧ OkF ⟨G, G, h0⟩ G (vs.map some) H ss f ∧ R ss o ∧ OcW W K ⟨G, G, h0⟩ Q E o
abbrev BodyG (W : WK) (K : PySem.W.Frag) (N n : Nat) (R : List Sl → Oc → Prop) (E : XK) (t : TS) : Prop := ∀ (ss : List Sl) (o : Oc) (B : Bs) (Q : VK), ss.length = n → R ss o → OcW W K B Q E o → At B (ss ++ List.replicate (N - n) .un) (t { nx := fun _ H' => Q .non H', rt := Q })
theorem okF_more {B : Bs} {G H : Hp} {vs : List V} {ss : List Sl} {f : Nat → List Addr} {m : Nat} (k : OkF B G (vs.map some) H ss f) : OkF B G (vs.map some ++ List.replicate m none) H (ss ++ List.replicate m .un) f := by
  refine ⟨k.eb, k.st, by rw [List.length_append, List.length_append, k.len, List.length_replicate, List.length_replicate], fun i s e => ?_, k.fr, k.ap⟩
  by_cases hi : i < ss.length
  · rw [List.getElem?_append_left hi] at e
    rw [List.getElem?_append_left (by rw [k.len]; exact hi)]
    exact k.sl i s e
  · rw [List.getElem?_append_right (by omega)] at e
    have := List.mem_of_getElem? e
    rw [List.mem_replicate] at this
    rw [this.2]; trivial
section
variable {P : Program} {w : World} {K : PySem.W.Frag} {mg : Str → Option Value} {base : Heap} {x : Str} {st : Stmt} {N ps : List Str} {k n : Nat} {W : WK} {R : List Sl → Oc → Prop}
theorem mkG (h : Has K mg x st) (hb : BindsP x st ps) (S : FnScope N ps (defScope st)) (hn : ps.length = n)
    (hbody : ∀ (f : Addr) (cdv : Value) (A : Around) (outer : List Env) (s : Shared) (H : Hp) (E : XK), Room k (A.deeper (envOfC x (defScope st) s.heap.objs.size f cdv)) →
      ∃ t, PSs (cxOf CX0 P w K mg base N x (defScope st) f cdv A outer s H E).nox (defBody st) t ∧ BodyG W K N.length n R E t) : Def P w K mg base CX0 (k + 1) x ps (spG W K n R) :=
  mk_def h hb S (fun vs H Q E z => by obtain ⟨_, _, _, _, _, hl, _⟩ := z; exact hl.trans hn.symm) fun f cdv A outer s H vs Q E hr hsp => by
    obtain ⟨t, h1, h2⟩ := hbody f cdv A outer s H E hr
    obtain ⟨ss, o, G, h0, ff, hl, k, hR, q⟩ := hsp
    have hss : ss.length = n := by rw [← hl, ← k.len, List.length_map]
    refine ⟨t, h1.nox, h2 ss o ⟨G, G, h0⟩ Q hss hR q G _ H ⟨ff, ?_⟩⟩
    have := okF_more (m := N.length - n) k
    unfold L2.start
    rw [hl]
    exact this
/-- .. that may raise -/
theorem mkGX (h : Has K mg x st) (hb : BindsP x st ps) (S : FnScope N ps (defScope st)) (hn : ps.length = n)
    (hbody : ∀ (f : Addr) (cdv : Value) (A : Around) (outer : List Env) (s : Shared) (H : Hp) (E : XK), Room k (A.deeper (envOfC x (defScope st) s.heap.objs.size f cdv)) →
      ∃ t, PSs (cxOf (L2.CX P w) P w K mg base N x (defScope st) f cdv A outer s H E) (defBody st) t ∧ BodyG W K N.length n R E t) : Def P w K mg base (L2.CX P w) (k + 1) x ps (spG W K n R) :=
  mk_def h hb S (fun vs H Q E z => by obtain ⟨_, _, _, _, _, hl, _⟩ := z; exact hl.trans hn.symm) fun f cdv A outer s H vs Q E hr hsp => by
    obtain ⟨t, h1, h2⟩ := hbody f cdv A outer s H E hr
    obtain ⟨ss, o, G, h0, ff, hl, k, hR, q⟩ := hsp
    have hss : ss.length = n := by rw [← hl, ← k.len, List.length_map]
    refine ⟨t, h1, h2 ss o ⟨G, G, h0⟩ Q hss hR q G _ H ⟨ff, ?_⟩⟩
    have := okF_more (m := N.length - n) k
    unfold L2.start
    rw [hl]
    exact this
end
section
open Classical
variable {K : PySem.W.Frag} {Γ : List Sl} {ta : TA} {d : PyData} {n : Nat} {S : List Nat} {ss : List Sl} {R : List Sl → Oc → Prop} {E : XK}
/-- the heap less what the arguments own, and less what was at S -/
noncomputable def hArg (f F : Nat → List Addr) (S : List Nat) (H : Hp) : Hp := fun a => if (∃ i, a ∈ f i) ∨ ∃ j ∈ S, a ∈ F j then none else H a
theorem args_ok {B : Bs} {G G1 H H1 : Hp} {σ : L2.St} {F f : Nat → List Addr} {vs : List V} (k : OkF B G σ H Γ F) (s1 : Stp G H G1 H1) (hl : vs.length = ss.length) (hs : ∀ i s, ss[i]? = some s → SlOk G1 H1 (vs[i]?.map some) (f i) s)
    (hf : ∀ i, ∀ a ∈ f i, G1 a = none ∧ Mt H1 a ∧ (H a = none ∨ ∃ j ∈ S, a ∈ F j)) (ap : ∀ i j a, i ≠ j → a ∈ f i → a ∈ f j → False) :
    OkF ⟨G1, G1, hArg f F S H1⟩ G1 (vs.map some) H1 ss f ∧ ∀ G' H', Stp G1 (hArg f F S H1) G' H' → OkF B G' σ H' (unS S Γ) (fS S F) ∧ ∀ a, hArg f F S H1 a = none → B.h0 a = none ∧ ∀ i, a ∉ fS S F i := by
  have k1 := k.step s1
  have hh : Ex (hArg f F S H1) H1 := fun a o q => by
    unfold hArg at q
    by_cases h : (∃ i, a ∈ f i) ∨ ∃ j ∈ S, a ∈ F j
    · rw [if_pos h] at q; cases q
    · rw [if_neg h] at q; exact q
  have up : ∀ {X : Hp}, Ex X H1 → (∀ i, ∀ a ∈ f i, X a = none) → (∀ i, ∀ a ∈ F i, X a = none) → Ex X (hArg f F S H1) := fun {X} hx h1 h2 a o q => by
    unfold hArg
    rw [if_neg]
    · exact hx a o q
    · rintro (⟨i, m⟩ | ⟨j, _, m⟩)
      · rw [h1 i a m] at q; cases q
      · rw [h2 j a m] at q; cases q
  have bf : ∀ i, ∀ a ∈ f i, B.h0 a = none := fun i a m => by
    rcases (hf i a m).2.2 with z | ⟨j, _, mj⟩
    · exact k.st.h.no z
    · exact (k.fr j a mj).1
  have exG : Ex G1 (hArg f F S H1) := up s1.gh (fun i a m => (hf i a m).1) (fun i a m => (k1.fr i a m).2.1)
  have exB : Ex B.h0 (hArg f F S H1) := up k1.st.h bf (fun i a m => (k1.fr i a m).1)
  have keep : ∀ i, i ∉ S → ∀ a ∈ F i, hArg f F S H1 a = H1 a := fun i hi a m => by
    unfold hArg
    rw [if_neg]
    rintro (⟨l, ml⟩ | ⟨j, hj, mj⟩)
    · rcases (hf l a ml).2.2 with z | ⟨j, hj, mj⟩
      · obtain ⟨o, ho⟩ := (k.fr i a m).2.2.some
        rw [z] at ho; cases ho
      · exact k.ap i j a (fun z => hi (z ▸ hj)) m mj
    · exact k.ap i j a (fun z => hi (z ▸ hj)) m mj
  refine ⟨⟨Ex.rfl' G1, ⟨Ex.rfl' G1, hh, s1.gh, fun _ _ _ h => h⟩, by rw [List.length_map]; exact hl, fun i s e => ?_, fun i a m => ⟨?_, (hf i a m).1, (hf i a m).2.1⟩, ap⟩, fun G' H' s => ⟨k1.used exG exB keep s, fun a ha => ⟨exB.no ha, fun i hi => ?_⟩⟩⟩
  · rw [List.getElem?_map]; exact hs i s e
  · show (if (∃ i, a ∈ f i) ∨ ∃ j ∈ S, a ∈ F j then none else H1 a) = none
    exact if_pos (.inl ⟨i, m⟩)
  · obtain ⟨hS, hF⟩ := fS_in hi
    obtain ⟨o, ho⟩ := (k1.fr i a hF).2.2.some
    rw [keep i hS a hF, ho] at ha; cases ha
theorem evq_callG (h : EvS ta Γ S ss) (hn : ss.length = n) (hR : R ss (.ok d)) : EvQ (tCall (spG WO K n R) [] E ta) Γ (unS S Γ) d := fun B G σ H ok Q q => by
  obtain ⟨F, k⟩ := ok
  refine h B G σ H F k _ fun vs f G1 H1 s1 hl hs hf ap => ?_
  rw [List.append_nil]
  obtain ⟨a1, a2⟩ := args_ok k s1 hl hs hf ap
  refine ⟨ss, .ok d, G1, _, f, hl.trans hn, a1, hR, fun v g G' H' s r nd m => ?_⟩
  obtain ⟨k2, hh⟩ := a2 G' H' s
  exact q v g G' H' _ k2 r nd fun a ha => ⟨(hh a (m a ha).1).1, (m a ha).2, (hh a (m a ha).1).2⟩
theorem evp_callG (h : EvS ta Γ S ss) (hn : ss.length = n) (hR : R ss (.ok d)) : EvP (tCall (spG WD K n R) [] E ta) Γ (unS S Γ) d := fun B G σ H ok Q q => by
  obtain ⟨F, k⟩ := ok
  refine h B G σ H F k _ fun vs f G1 H1 s1 hl hs hf ap => ?_
  rw [List.append_nil]
  obtain ⟨a1, a2⟩ := args_ok k s1 hl hs hf ap
  refine ⟨ss, .ok d, G1, _, f, hl.trans hn, a1, hR, fun v G' H' s r => ?_⟩
  obtain ⟨k2, hh⟩ := a2 G' H' s
  exact q v G' H' (s1.g.tr s.g) ⟨_, k2⟩ r
theorem evq_callGS {Wx : WX} (h : EvS ta Γ S ss) (hn : ss.length = n) (hR : R ss (.ok d)) : EvQ (tCallS (spG WO K n R) (WE Wx) ta) Γ (unS S Γ) d := fun B G σ H ok Q q => by
  obtain ⟨F, k⟩ := ok
  refine h B G σ H F k _ fun vs f G1 H1 s1 hl hs hf ap => ?_
  obtain ⟨a1, a2⟩ := args_ok k s1 hl hs hf ap
  refine ⟨ss, .ok d, G1, _, f, hl.trans hn, a1, hR, fun v g G' H' s r nd m => ?_⟩
  obtain ⟨k2, hh⟩ := a2 G' H' s
  exact q v g G' H' _ k2 r nd fun a ha => ⟨(hh a (m a ha).1).1, (m a ha).2, (hh a (m a ha).1).2⟩
end
/-! ### a list that is changed in place, the third argument -/
def hBut (a : Addr) (H : Hp) : Hp := fun b => if b = a then none else H b
theorem hBut_ne {a b : Addr} {H : Hp} (h : b ≠ a) : hBut a H b = H b := if_neg h
theorem hBut_same {a : Addr} {H : Hp} : hBut a H a = none := if_pos rfl
theorem hBut_ex {a : Addr} {H : Hp} : Ex (hBut a H) H := fun b o q => by
  unfold hBut at q
  split at q
  · cases q
  · exact q
theorem ex_hBut {a : Addr} {H X : Hp} (h : Ex X H) (n : X a = none) : Ex X (hBut a H) := fun b o q => by
  rw [hBut_ne fun z => by subst z; rw [n] at q; cases q]; exact h b o q
abbrev RtI (B : Bs) (Q : VK) (a : Addr) (ts : List PyData) (d : PyData) : Prop := ∀ v ys G H, Stp B.g0 B.h0 G H → G a = none → H a = some (.lst ys) → Rps G ys ts → Rp G v d → Q v H
def spI (m : Nat) (R : List PyData → List PyData → List PyData → PyData → Prop) : Sp := fun vs H Q _ => ∃ (ds es : List PyData) (v1 v2 : List V) (ts ts' : List PyData) (d : PyData) (a : Addr) (xs : List V) (G : Hp),
  vs = v1 ++ .ref a :: v2 ∧ Ex G H ∧ Rps G v1 ds ∧ Rps G v2 es ∧ ds.length = 2 ∧ es.length = m ∧ G a = none ∧ H a = some (.lst xs) ∧ Rps G xs ts ∧ R (ds ++ es) ts ts' d ∧ RtI ⟨G, G, hBut a H⟩ Q a ts' d
abbrev BodyI (N m : Nat) (R : List PyData → List PyData → List PyData → PyData → Prop) (t : TS) : Prop := ∀ (ds es ts ts' : List PyData) (d : PyData) (a : Addr) (B : Bs) (Q : VK), ds.length = 2 → es.length = m → R (ds ++ es) ts ts' d → RtI B Q a ts' d →
  At B (ds.map .d ++ .oa a ts :: (es.map .d ++ List.replicate (N - (3 + m)) .un)) (t { nx := fun _ H' => Q .non H', rt := Q })
theorem mkI {P : Program} {w : World} {K : PySem.W.Frag} {mg : Str → Option Value} {base : Heap} {x : Str} {st : Stmt} {N ps : List Str} {k m : Nat} {R : List PyData → List PyData → List PyData → PyData → Prop} (h : Has K mg x st) (hb : BindsP x st ps) (S : FnScope N ps (defScope st)) (hn : ps.length = 3 + m)
    (hbody : ∀ (f : Addr) (cdv : Value) (A : Around) (outer : List Env) (s : Shared) (H : Hp) (E : XK), Room k (A.deeper (envOfC x (defScope st) s.heap.objs.size f cdv)) →
      ∃ t, PSs (cxOf CX0 P w K mg base N x (defScope st) f cdv A outer s H E).nox (defBody st) t ∧ BodyI N.length m R t) : Def P w K mg base CX0 (k + 1) x ps (spI m R) :=
  mk_def h hb S (fun vs H Q E ⟨ds, es, v1, v2, _, _, _, _, _, _, e, _, r1, r2, l1, l2, _⟩ => by
    rw [e, List.length_append, List.length_cons, r1.length, r2.length, l1, l2, hn]; omega) fun f cdv A outer s H vs Q E hr hsp => by
    obtain ⟨t, h1, h2⟩ := hbody f cdv A outer s H E hr
    obtain ⟨ds, es, v1, v2, ts, ts', d, a, xs, G, rfl, ex, r1, r2, l1, l2, hg, hh, rx, hR, q⟩ := hsp
    refine ⟨t, h1.nox, h2 ds es ts ts' d a ⟨G, G, hBut a H⟩ Q l1 l2 hR q G _ H ⟨fun i => if i = 2 then [a] else [], Ex.rfl' G, ⟨Ex.rfl' G, hBut_ex, ex, fun _ _ _ h => h⟩, ?_, fun i s e => ?_, fun i b mb => ?_, fun i j b hne m1 m2 => ?_⟩⟩
    · unfold L2.start
      simp only [List.length_append, List.length_map, List.length_cons, List.length_replicate, r1.length, r2.length, l1, l2]
      omega
    · unfold L2.start
      by_cases h0 : i < 2
      · rw [List.getElem?_append_left (by rw [List.length_map, l1]; exact h0), List.getElem?_map] at e
        have hd : ds[i]? = some ds[i] := List.getElem?_eq_getElem (by omega)
        rw [hd] at e
        cases e
        obtain ⟨v, hv, rv⟩ := r1.get hd
        refine ⟨v, ?_, rv⟩
        rw [List.getElem?_append_left (by rw [List.length_map, List.length_append, r1.length, l1]; omega), List.getElem?_map, List.getElem?_append_left (by rw [r1.length, l1]; exact h0), hv]
        rfl
      · rw [List.getElem?_append_right (by rw [List.length_map, l1]; omega), List.length_map, l1] at e
        by_cases h2 : i = 2
        · subst h2
          cases e
          refine ⟨xs, ?_, by simp, hh, rx⟩
          rw [List.getElem?_append_left (by rw [List.length_map, List.length_append, r1.length, l1, List.length_cons]; omega), List.getElem?_map, List.getElem?_append_right (by rw [r1.length, l1]; exact Nat.le_refl _), r1.length, l1]
          rfl
        · obtain ⟨j, rfl⟩ : ∃ j, i = j + 3 := ⟨i - 3, by omega⟩
          rw [show j + 3 - 2 = j + 1 by omega, List.getElem?_cons_succ] at e
          by_cases h3 : j < es.length
          · rw [List.getElem?_append_left (by rw [List.length_map]; exact h3), List.getElem?_map] at e
            have hd : es[j]? = some es[j] := List.getElem?_eq_getElem h3
            rw [hd] at e
            cases e
            obtain ⟨v, hv, rv⟩ := r2.get hd
            refine ⟨v, ?_, rv⟩
            rw [List.getElem?_append_left (by rw [List.length_map, List.length_append, r1.length, l1, List.length_cons, r2.length]; omega), List.getElem?_map, List.getElem?_append_right (by rw [r1.length, l1]; omega), r1.length, l1, show j + 3 - 2 = j + 1 by omega, List.getElem?_cons_succ, hv]
            rfl
          · rw [List.getElem?_append_right (by rw [List.length_map]; omega)] at e
            have := List.mem_of_getElem? e
            rw [List.mem_replicate] at this
            rw [this.2]; trivial
    · have mb' : b ∈ (if i = 2 then [a] else []) := mb
      split at mb'
      · rcases List.mem_cons.mp mb' with rfl | z
        · exact ⟨hBut_same, hg, .inl ⟨_, hh⟩⟩
        · cases z
      · cases mb'
    · have m1' : b ∈ (if i = 2 then [a] else []) := m1
      have m2' : b ∈ (if j = 2 then [a] else []) := m2
      split at m1'
      · split at m2'
        · rename_i e1 e2; exact hne (e1.trans e2.symm)
        · cases m2'
      · cases m1'
section
variable {K : PySem.W.Frag} {B : Bs} {Γ Γ' : List Sl} {nx bk ct : L2.St → Hp → Prop} {rt : VK} {te t1 t2 t3 ti : TE} {tr : TA} {d x y : PyData} {ds es ts ts' : List PyData} {i j m : Nat} {a : Addr} {R : List PyData → List PyData → List PyData → PyData → Prop} {E : XK}
theorem Ok.oaG {G H : Hp} {σ : L2.St} (k : Ok B G σ H Γ) (e : Γ[i]? = some (.oa a ts)) : G a = none ∧ ∃ vs, H a = some (.lst vs) ∧ Rps G vs ts := by
  obtain ⟨F, k⟩ := k
  obtain ⟨vs, _, m, hh, r⟩ := k.sl i _ e
  exact ⟨(k.fr i a m).2.1, vs, hh, r⟩
theorem at_rtI (h : Ev te Γ d) (e : Γ[i]? = some (.oa a ts)) {d' : PyData} (ed : d = d') (q : RtI B rt a ts d') : At B Γ (tRet te ⟨nx, rt, bk, ct⟩) := fun G σ H ok =>
  h B G σ H ok _ fun v G' H' s r => by
    obtain ⟨hg, vs, hh, rr⟩ := (ok.step s).oaG e
    exact q v vs G' H' (ok.step s).st hg hh rr (ed ▸ r)
theorem at_rtIP (h : EvP te Γ Γ' d) (e : Γ'[i]? = some (.oa a ts)) {d' : PyData} (ed : d = d') (q : RtI B rt a ts d') : At B Γ (tRet te ⟨nx, rt, bk, ct⟩) := fun G σ H ok =>
  h B G σ H ok _ fun v G' H' _ ok' r => by
    obtain ⟨hg, vs, hh, rr⟩ := ok'.oaG e
    exact q v vs G' H' ok'.st hg hh rr (ed ▸ r)
theorem OkF.inOa {G : Hp} {σ : L2.St} {H : Hp} {F : Nat → List Addr} (k : OkF B G σ H Γ F) (e : Γ[i]? = some (.oa a ds)) : σ[i]? = some (some (.ref a)) ∧ a ∈ F i := by
  obtain ⟨vs, e2, m, _⟩ := k.sl i _ e
  exact ⟨e2, m⟩
theorem at_setitemOa {n : Int} (e : Γ[i]? = some (.oa a ds)) (hv : Ev te Γ d) (hi : Ev ti Γ (.int n)) (hx : ixN ds.length n = some j) (hs : SetAt Γ i (.oa a (ds.set j d)) Γ') (q : At B Γ' nx) : At B Γ (tAsg te (gSub (tVar i) ti rSetL) ⟨nx, rt, bk, ct⟩) := fun G σ H ok => by
  refine hv B G σ H ok _ fun v G1 H1 s1 rv => ?_
  have ok1 := ok.step s1
  obtain ⟨e1, _⟩ : σ[i]? = some (some (.ref a)) ∧ True := by
    obtain ⟨F, k⟩ := ok; exact ⟨(k.inOa e).1, trivial⟩
  refine ⟨.ref a, e1, ?_⟩
  refine hi B G1 σ H1 ok1 _ fun w G2 H2 s2 rw' => ?_
  cases rw'
  have ok2 := ok1.step s2
  obtain ⟨hg, vs, hh, r⟩ := ok2.oaG e
  refine ⟨a, vs, n, j, rfl, rfl, hh, by rw [r.length]; exact hx, ?_⟩
  exact q G2 σ _ (hs.eq ▸ ok2.mut (fun _ z => .inl ⟨_, z⟩) (fun F k => (k.inOa e).2) fun f m => ⟨vs.set j v, e1, m, upd_same, r.set (rv.up s2.g) j⟩)
/-- one's own list is handed on, to be changed in place -/
theorem evp_inplace {s : Sl} (hs : ∀ (G H : Hp) (o : Option (Option V)) (f : List Addr), SlOk G H o f s → ∃ a vs, o = some (some (.ref a)) ∧ a ∈ f ∧ H a = some (.lst vs) ∧ Rps G vs ts) {s' : Sl}
    (hs' : ∀ (G H : Hp) (o : Option (Option V)) (f : List Addr) (a : Addr) (ys : List V), (∃ G0 H0 f0, SlOk G0 H0 o f0 s) → o = some (some (.ref a)) → a ∈ f → H a = some (.lst ys) → Rps G ys ts' → SlOk G H o f s')
    (e : Γ[i]? = some s) (h1 : Ev t1 Γ x) (h2 : Ev t2 Γ y) (h3 : EvA tr Γ es) (hn : es.length = m) (hR : R ([x, y] ++ es) ts ts' d) : EvP (tCall (spI m R) [] E (tCons t1 (tCons t2 (tCons (tVar i) tr)))) Γ (Γ.set i s') d := fun B G σ H ok Q q =>
  h1 B G σ H ok _ fun v G1 H1 s1 r1 => h2 B G1 σ H1 (ok.step s1) _ fun u G2 H2 s2 r2 => by
    have ok2 := (ok.step s1).step s2
    obtain ⟨F, k2⟩ := ok2
    obtain ⟨a, xs, e1, ma, hh, rx⟩ := hs _ _ _ _ (k2.sl i _ e)
    refine ⟨.ref a, e1, h3 B G2 σ H2 ⟨F, k2⟩ _ fun ws G3 H3 s3 r3 => ?_⟩
    show spI m R ((v :: u :: V.ref a :: ws) ++ []) H3 Q E
    rw [List.append_nil]
    have k3 := k2.step s3
    have hh3 := s3.h _ _ hh
    obtain ⟨b0, bg, _⟩ := k3.fr i a ma
    refine ⟨[x, y], es, [v, u], ws, ts, ts', d, a, xs, G3, rfl, s3.gh, .cons ((r1.up s2.g).up s3.g) (.cons (r2.up s3.g) .nil), r3, rfl, hn, bg, hh3, rx.up s3.g, hR, fun z ys G' H' st hg' hh' rys rz => ?_⟩
    have keep : ∀ b o, b ≠ a → H3 b = some o → H' b = some o := fun b o hb ho => st.h b o ((hBut_ne hb).trans ho)
    refine q z G' H' (((s1.g.tr s2.g).tr s3.g).tr st.g) ⟨F, k3.eb.tr st.g, ?_, by rw [List.length_set]; exact k3.len, fun j t et => ?_, fun j b mb => ?_, k3.ap⟩ rz
    · have p0 : Stp B.g0 B.h0 G3 (hBut a H3) := ⟨k3.st.g, ex_hBut k3.st.h b0, ex_hBut k3.st.gh bg, k3.st.nw⟩
      exact p0.tr st
    · by_cases hj : i = j
      · subst hj
        have hi : i < Γ.length := (List.getElem?_eq_some_iff.mp e).1
        rw [List.getElem?_set_self hi] at et
        cases et
        exact hs' _ _ _ _ a ys ⟨_, _, _, k3.sl i _ e⟩ e1 ma hh' rys
      · rw [List.getElem?_set_ne hj] at et
        refine (k3.sl j t et).fr st.g fun b mb => ?_
        have hb : b ≠ a := fun z => k3.ap i j a hj ma (z ▸ mb)
        obtain ⟨o, ho⟩ := (k3.fr j b mb).2.2.some
        rw [keep b o hb ho, ho]
    · obtain ⟨c0, cg, cm⟩ := k3.fr j b mb
      by_cases hb : b = a
      · subst hb; exact ⟨c0, hg', .inl ⟨_, hh'⟩⟩
      · obtain ⟨o, ho⟩ := cm.some
        exact ⟨c0, st.nw b o ((hBut_ne hb).trans ho) cg, cm.of ((keep b o hb ho).trans ho.symm)⟩
theorem evp_callI (e : Γ[i]? = some (.own ts)) (h1 : Ev t1 Γ x) (h2 : Ev t2 Γ y) (h3 : EvA tr Γ es) (hn : es.length = m) (hR : R ([x, y] ++ es) ts ts' d) : EvP (tCall (spI m R) [] E (tCons t1 (tCons t2 (tCons (tVar i) tr)))) Γ (Γ.set i (.own ts')) d :=
  evp_inplace (s := .own ts) (s' := .own ts') (fun G H o f h => h) (fun G H o f a ys _ e m hh r => ⟨a, ys, e, m, hh, r⟩) e h1 h2 h3 hn hR
theorem evp_callIa (e : Γ[i]? = some (.oa a ts)) (h1 : Ev t1 Γ x) (h2 : Ev t2 Γ y) (h3 : EvA tr Γ es) (hn : es.length = m) (hR : R ([x, y] ++ es) ts ts' d) : EvP (tCall (spI m R) [] E (tCons t1 (tCons t2 (tCons (tVar i) tr)))) Γ (Γ.set i (.oa a ts')) d :=
  evp_inplace (s := .oa a ts) (s' := .oa a ts') (fun G H o f ⟨vs, e, m, hh, r⟩ => ⟨a, vs, e, m, hh, r⟩) (fun G H o f b ys ⟨G0, H0, f0, vs, e0, _⟩ e m hh r => by
    rw [e0] at e
    cases e
    exact ⟨ys, e0, m, hh, r⟩) e h1 h2 h3 hn hR
/-- .. a new one -/
theorem ev_callIn (h1 : Ev t1 Γ x) (h2 : Ev t2 Γ y) (h3 : EvN t3 Γ ts) (hm : m = 0) (hR : R [x, y] ts ts' d) : Ev (tCall (spI m R) [] E (tCons t1 (tCons t2 (tCons t3 tNil)))) Γ d := fun B G σ H ok Q q =>
  h1 B G σ H ok _ fun v G1 H1 s1 r1 => h2 B G1 σ H1 (ok.step s1) _ fun u G2 H2 s2 r2 => h3 B G2 σ H2 ((ok.step s1).step s2) _ fun a xs G3 H3 s3 h0 hg hh rx => by
    subst hm
    refine ⟨[x, y], [], [v, u], [], ts, ts', d, a, xs, G3, rfl, s3.gh, .cons ((r1.up s2.g).up s3.g) (.cons (r2.up s3.g) .nil), .nil, rfl, rfl, hg, hh, rx, hR, fun z ys G' H' st hg' hh' rys rz => ?_⟩
    refine q z G' H' ((s1.tr s2).tr ⟨s3.g.tr st.g, (ex_hBut s3.h h0).tr st.h, st.gh, fun b o ho hn => ?_⟩) rz
    have hb : b ≠ a := ne_of_none ho h0
    exact st.nw b o ((hBut_ne hb).trans (s3.h b o ho)) (s3.nw b o ho hn)
end
/-! ### a comprehension whose element has an effect -/
theorem OkF.unset {B : Bs} {G H : Hp} {σ : L2.St} {Γ : List Sl} {F : Nat → List Addr} {j : Nat} {v : Option V} (k : OkF B G (σ.set j v) H Γ F) : OkF B G σ H (Γ.set j .un) F := by
  refine ⟨k.eb, k.st, by have := k.len; rw [List.length_set] at this ⊢; exact this, fun i s e => ?_, k.fr, k.ap⟩
  by_cases hi : j = i
  · subst hi
    by_cases hl : j < Γ.length
    · rw [List.getElem?_set_self hl] at e
      cases e; trivial
    · rw [List.getElem?_eq_none (by rw [List.length_set]; omega)] at e
      cases e
  · rw [List.getElem?_set_ne hi] at e
    have := k.sl i s e
    rw [List.getElem?_set_ne hi] at this
    exact this
theorem evp_lc {Γ : List Sl} {wi : TI} {te : TE} {j : Nat} {α : Type} {js : List Nat} (enc : α → PyData) (xs : List α) (I : Nat → List Sl) (f : Nat → PyData) (hj : js = [j]) (h0 : I 0 = Γ) (hu : ∀ n, (I n).set j .un = I n) (hi : EvI wi Γ (xs.map enc)) (hz : xs.length ≤ sizeLine)
    (he : ∀ n x, xs[n]? = some x → EvP te ((I n).set j (.d (enc x))) ((I (n + 1)).set j (.d (enc x))) (f n)) : EvP (tLc wi (gName j) tYes te js) Γ (I xs.length) (.list ((List.range xs.length).map f)) := fun B G σ H ok Q q => hi B G σ H ok _ fun J G1 H1 s1 it => by
  subst hj
  intro D hD
  have hGD : G1 D = none := s1.gh.no hD
  have hlen : (xs.map enc).length = xs.length := List.length_map _
  have ok1 := ok.step s1
  have hBD : B.h0 D = none := ok1.st.h.no hD
  refine ⟨fun n m H2 => m = xs.length - n ∧ n ≤ xs.length ∧ ∃ G2 acc F, Ex G1 G2 ∧ G2 D = none ∧ H2 D = some (.lst acc) ∧ (∀ i, D ∉ F i) ∧ OkF B G2 σ H2 (I n) F ∧ Rps G2 acc ((List.range n).map f), ⟨xs.length, by simp, Nat.zero_le _, ?_⟩, ?_⟩
  · obtain ⟨F, k⟩ := ok1
    have nD : ∀ i, D ∉ F i := fun i m => by
      obtain ⟨o, ho⟩ := (k.fr i D m).2.2.some
      rw [hD] at ho; cases ho
    exact ⟨G1, [], F, Ex.rfl' _, hGD, upd_same, nD, h0 ▸ k.other nD hGD hBD, .nil⟩
  rintro n m H2 ⟨rfl, hil, G2, acc, F, e2, hg2, hh2, nD, k2, ra⟩
  by_cases hlt : n < xs.length
  · have hget : xs[n]? = some xs[n] := List.getElem?_eq_getElem hlt
    have hget' : (xs.map enc)[n]? = some (enc xs[n]) := by rw [List.getElem?_map, hget]; rfl
    refine .inr ⟨it.go n H2 (by rw [hlen]; exact hlt) (e2.tr k2.st.gh), fun H' => ∃ G2 acc F, Ex G1 G2 ∧ G2 D = none ∧ H' D = some (.lst acc) ∧ (∀ i, D ∉ F i) ∧ OkF B G2 σ H' (I (n + 1)) F ∧ Rps G2 acc ((List.range (n + 1)).map f),
      fun H' h' => ⟨xs.length - (n + 1), by omega, rfl, hlt, h'⟩, fun x H' hy => ?_⟩
    obtain ⟨rfl, rx⟩ := it.yld n H2 x H' _ hget' (e2.tr k2.st.gh) hy
    refine ⟨wipe_after σ j x, ?_⟩
    rw [wipe_set]
    delta tYes
    dsimp only
    rw [if_pos rfl]
    have kb := k2.rebase
    have stb := k2.stLess
    have okx : Ok ⟨G2, G2, hLess F H'⟩ G2 (σ.set j (some x)) H' ((I n).set j (.d (enc xs[n]))) := Ok.setD ⟨F, kb⟩ j (rx.up e2)
    refine he n xs[n] hget _ G2 _ H' okx _ fun v G4 H4 e4 ok4 rv => ?_
    obtain ⟨F4, k4⟩ := ok4
    have hDb : hLess F H' D = some (.lst acc) := by rw [hLess_no nD]; exact hh2
    have hh4 : H4 D = some (.lst acc) := k4.st.h D _ hDb
    have hg4 : G4 D = none := k4.st.nw D _ hDb hg2
    have nD4 : ∀ i, D ∉ F4 i := fun i m => by
      have h := (k4.fr i D m).1
      have h' : hLess F H' D = none := h
      rw [hDb] at h'; cases h'
    have hal : acc.length < sizeLine := by
      have h1 := ra.length
      rw [List.length_map, List.length_range] at h1
      omega
    have k5 : OkF B G4 (σ.set j (some x)) H4 ((I (n + 1)).set j (.d (enc xs[n]))) F4 := OkF.unbase k2.eb stb k4
    have k6 : OkF B G4 σ H4 (I (n + 1)) F4 := by
      have := k5.unset
      rw [List.set_set, hu] at this
      exact this
    refine ⟨acc, hh4, hal, G4, acc ++ [v], F4, e2.tr e4, hg4, upd_same, nD4, k6.other nD4 hg4 hBD, ?_⟩
    rw [List.range_succ, List.map_append]
    exact (ra.up e4).app (.cons rv .nil)
  · have e : n = xs.length := by omega
    subst e
    refine .inl ⟨?_, q (.ref D) (upd G2 D (.lst acc)) H2 ((s1.g.tr e2).tr (Ex.new hg2)) ⟨F, k2.giveA nD hg2 hBD hh2⟩ (.lst (.inl upd_same) (ra.up (Ex.new hg2)))⟩
    have h := it.stop H2 (e2.tr k2.st.gh)
    rw [hlen] at h
    exact h
end Ck

namespace Ck
open PySem PySem.Spec PyProof.Rows L2

/-! ### the laws' deeds -/
theorem cutG_map {α β : Type} (f : α → β) (xs : List α) (lo hi : Option Int) : cutG (xs.map f) lo hi = (cutG xs lo hi).map f := by
  unfold cutG
  rw [List.length_map, List.map_take, List.map_drop]
theorem cutG_le {α : Type} (xs : List α) (lo hi : Option Int) : (cutG xs lo hi).length ≤ xs.length := by
  unfold cutG
  rw [List.length_take, List.length_drop]
  omega
theorem cutG_mem {α : Type} {xs : List α} {lo hi : Option Int} {x : α} (h : x ∈ cutG xs lo hi) : x ∈ xs := List.mem_of_mem_drop (List.mem_of_mem_take h)
def askerI (n : Int) : Int := if n / 3 % 5 = 1 then n / 15 % 10 else n % 3
def wordOf (n : Int) : Str := if n / 150 % 4 = 0 then wPut else if n / 150 % 4 = 1 then wAdd else if n / 150 % 4 = 2 then wOnce else wAway
def valueI (n : Int) : Int := if wordOf n = wAway then 0 else numberI (n / 600)
def keyAt (keys : List Str) (n : Int) : Str := keys.getD (n / 7 % 4).toNat ""
def turnAt (ts : List Int) (n : Int) : Int := ts.getD (askerI n).toNat 0 + 1
def deedI (n : Int) (keys : List Str) (ts : List Int) : Dd := ⟨askerI n, turnAt ts n, wordOf n, keyAt keys n, valueI n⟩
def bumpI (ts : List Int) (n : Int) : List Int := ts.set (askerI n).toNat (turnAt ts n)
theorem asker_lo (n : Int) : 0 ≤ askerI n := by
  unfold askerI
  split
  · exact Int.emod_nonneg _ (by decide)
  · exact Int.emod_nonneg _ (by decide)
theorem asker_hi (n : Int) : askerI n ≤ 9 := by
  unfold askerI
  split <;> omega
theorem word_at (n : Int) : atI [PyData.str wPut, .str wAdd, .str wOnce, .str wAway] (n / 150 % 4) = some (.str (wordOf n)) := by
  unfold wordOf
  have h1 := Int.emod_nonneg (n / 150) (show (4 : Int) ≠ 0 by decide)
  have h2 := Int.emod_lt_of_pos (n / 150) (show (0 : Int) < 4 by decide)
  generalize n / 150 % 4 = m at h1 h2
  obtain rfl | rfl | rfl | rfl : m = 0 ∨ m = 1 ∨ m = 2 ∨ m = 3 := by omega
  · exact atI_of (i := 0) rfl
  · exact atI_of (i := 1) rfl
  · exact atI_of (i := 2) rfl
  · exact atI_of (i := 3) rfl
theorem word_in (n : Int) : wordOf n = wPut ∨ wordOf n = wAdd ∨ wordOf n = wOnce ∨ wordOf n = wAway := by
  unfold wordOf
  split
  · exact .inl rfl
  · split
    · exact .inr (.inl rfl)
    · split
      · exact .inr (.inr (.inl rfl))
      · exact .inr (.inr (.inr rfl))
theorem strOk_wordOf (n : Int) : PyData.strOk (wordOf n) = true := by
  rcases word_in n with h | h | h | h <;> rw [h] <;> decide +kernel
theorem word_ok {w : Str} {v : Int} (h : w = wPut ∨ w = wAdd ∨ w = wOnce ∨ w = wAway) (hv : w = wAway → v = 0) : isWordS w v = true := by
  unfold isWordS
  rcases h with rfl | rfl | rfl | rfl
  · rfl
  · rfl
  · rfl
  · rw [hv rfl]; rfl
theorem keyAt_mem {keys : List Str} (h : keys.length = 4) (n : Int) : keyAt keys n ∈ keys := by
  unfold keyAt
  have h1 := Int.emod_nonneg (n / 7) (show (4 : Int) ≠ 0 by decide)
  have h2 := Int.emod_lt_of_pos (n / 7) (show (0 : Int) < 4 by decide)
  rw [List.getD_eq_getElem?_getD, List.getElem?_eq_getElem (by omega)]
  exact List.getElem_mem _
theorem keyAt_at {keys : List Str} (h : keys.length = 4) (n : Int) : atI (keys.map PyData.str) (n / 7 % 4) = some (.str (keyAt keys n)) := by
  have h1 := Int.emod_nonneg (n / 7) (show (4 : Int) ≠ 0 by decide)
  have h2 := Int.emod_lt_of_pos (n / 7) (show (0 : Int) < 4 by decide)
  refine atI_map (f := PyData.str) (atI_int h1 ?_)
  unfold keyAt
  rw [List.getD_eq_getElem?_getD, List.getElem?_eq_getElem (by omega)]; rfl
theorem turn_get {ts : List Int} (h : ts.length = 10) (n : Int) : ts[(askerI n).toNat]? = some (ts.getD (askerI n).toNat 0) := by
  have h1 := asker_lo n
  have h2 := asker_hi n
  rw [List.getD_eq_getElem?_getD, List.getElem?_eq_getElem (by omega)]; rfl
theorem bump_len (ts : List Int) (n : Int) : (bumpI ts n).length = ts.length := by simp [bumpI]
theorem bump_get {ts : List Int} (h : ts.length = 10) (n : Int) : (bumpI ts n)[(askerI n).toNat]? = some (turnAt ts n) := by
  have h1 := asker_lo n
  have h2 := asker_hi n
  unfold bumpI
  rw [List.getElem?_set_self (by omega)]
theorem deedI_ok {n : Int} {keys : List Str} {ts : List Int} (hk : ∀ k ∈ keys, isKeyS k = true) (h4 : keys.length = 4) (ht : ∀ t ∈ ts, 0 ≤ t) : (deedI n keys ts).ok := by
  refine ⟨asker_lo n, asker_hi n, ?_, hk _ (keyAt_mem h4 n), word_ok (word_in n) fun h => ?_⟩
  · show 1 ≤ turnAt ts n
    unfold turnAt
    rw [List.getD_eq_getElem?_getD]
    cases e : ts[(askerI n).toNat]? with
    | none => simp
    | some t =>
      have := ht t (List.mem_of_getElem? e)
      rw [Option.getD_some]; omega
  · show valueI n = 0
    unfold valueI
    exact if_pos h
theorem bump_nn {ts : List Int} (ht : ∀ t ∈ ts, 0 ≤ t) (n : Int) : ∀ t ∈ bumpI ts n, 0 ≤ t := fun t h => by
  unfold bumpI at h
  rcases List.mem_or_eq_of_mem_set h with h | h
  · exact ht t h
  · subst h
    unfold turnAt
    rw [List.getD_eq_getElem?_getD]
    cases e : ts[(askerI n).toNat]? with
    | none => simp
    | some t =>
      have := ht t (List.mem_of_getElem? e)
      rw [Option.getD_some]; omega
def R_deed (ds ts ts' : List PyData) (d : PyData) : Prop := ∃ (n : Int) (keys : List Str) (tn : List Int), ds = [.int n, .list (keys.map .str)] ∧ 0 ≤ n ∧ n < 1000000 ∧ keys.length = 4 ∧ tn.length = 10 ∧ ts = tn.map .int ∧ ts' = (bumpI tn n).map .int ∧ d = (deedI n keys tn).e
def turnsN (cells : List Int) : Nat → List Int
  | 0 => List.replicate 10 0
  | n + 1 => bumpI (turnsN cells n) (mixed (cells.getD n 0) n)
theorem turnsN_len (cells : List Int) : ∀ n, (turnsN cells n).length = 10
  | 0 => rfl
  | n + 1 => by rw [turnsN, bump_len, turnsN_len cells n]
theorem turnsN_nn (cells : List Int) : ∀ n, ∀ t ∈ turnsN cells n, 0 ≤ t
  | 0 => fun t h => by
    unfold turnsN at h
    rw [List.mem_replicate] at h
    omega
  | n + 1 => bump_nn (turnsN_nn cells n) _
def deedAt (cells : List Int) (keys : List Str) (k : Nat) : Dd := deedI (mixed (cells.getD k 0) k) keys (turnsN cells k)
def deedsL (cells : List Int) (keys : List Str) : List Dd := (List.range cells.length).map (deedAt cells keys)
theorem deedsL_len (cells : List Int) (keys : List Str) : (deedsL cells keys).length = cells.length := by simp [deedsL]
theorem deedsL_ok {cells : List Int} {keys : List Str} (hk : ∀ k ∈ keys, isKeyS k = true) (h4 : keys.length = 4) : ∀ d ∈ deedsL cells keys, d.ok := fun d hd => by
  obtain ⟨k, _, rfl⟩ := List.mem_map.mp hd
  exact deedI_ok hk h4 (turnsN_nn cells k)
def R_deeds (ds : List PyData) (d : PyData) : Prop := ∃ (cells : List Int) (keys : List Str), ds = [.list (cells.map .int), .list (keys.map .str)] ∧ cells.length ≤ 1000 ∧ keys.length = 4 ∧ d = .list ((deedsL cells keys).map Dd.e)
theorem keysS_len (n : Int) : (keysS n).length = 4 := rfl
section
variable {Γ : List Sl} {ta tb : TE} {E : XK}
theorem ev_deeds {cells : List Int} {keys : List Str} (h1 : Ev ta Γ (.list (cells.map .int))) (h2 : Ev tb Γ (.list (keys.map .str))) (hz : cells.length ≤ 1000) (h4 : keys.length = 4) : Ev (tCall (spP 2 R_deeds) [] E (tCons ta (tCons tb tNil))) Γ (.list ((deedsL cells keys).map Dd.e)) :=
  ev_call (ea_cons h1 (ea_cons h2 ea_nil)) rfl ⟨cells, keys, rfl, hz, h4, rfl⟩
end
/-! a thing is like itself -/
mutual
theorem eqv_refl : ∀ d : PyData, d.canLay0 = true → PyData.eqv d d = true
  | .none, _ => by simp [PyData.eqv]
  | .bool b, _ => by simp [PyData.eqv]
  | .int i, _ => by simp [PyData.eqv]
  | .str x, _ => by simp [PyData.eqv]
  | .list ds, h => by
    simp only [PyData.eqv]
    exact eqvAll_refl ds (by simpa only [PyData.canLay0] using h)
  | .tuple ds, h => by
    simp only [PyData.eqv]
    exact eqvAll_refl ds (by simpa only [PyData.canLay0] using h)
  | .dict ps, h => by simp [PyData.canLay0] at h
theorem eqvAll_refl : ∀ ds : List PyData, PyData.canLayAll0 ds = true → PyData.eqvAll ds ds = true
  | [], _ => by simp [PyData.eqvAll]
  | d :: ds, h => by
    have h' : d.canLay0 = true ∧ PyData.canLayAll0 ds = true := by simpa only [PyData.canLayAll0, Bool.and_eq_true] using h
    simp only [PyData.eqvAll, eqv_refl d h'.1, eqvAll_refl ds h'.2, Bool.and_self]
end
theorem rv_eqSelf {K : PySem.W.Frag} {x : PyData} (h : ∃ n, n ≤ 64 ∧ Shp n x) : RvD (rEqD K) x x (.bool true) := by
  obtain ⟨n, hn, h⟩ := h
  have e := rv_eqD (K := K) (h.sh hn) (h.sh hn)
  rw [eqv_refl x h.lay] at e
  exact e
theorem rv_neSelf {K : PySem.W.Frag} {x : PyData} (h : ∃ n, n ≤ 64 ∧ Shp n x) : RvD (rNeD K) x x (.bool false) := by
  obtain ⟨n, hn, h⟩ := h
  have e := rv_neD (K := K) (h.sh hn) (h.sh hn)
  rw [eqv_refl x h.lay] at e
  exact e
section
variable {Γ : List Sl} {ta tb : TE} {E : XK}
theorem ev_alike {x : PyData} {n : Nat} (h1 : Ev ta Γ x) (h2 : Ev tb Γ x) (hx : Alk n x) : Ev (tCall (spP 2 (R_alike n)) [] E (tCons ta (tCons tb tNil))) Γ (.bool true) := ev_call (ea_cons h1 (ea_cons h2 ea_nil)) rfl ⟨x, rfl, hx, rfl⟩
end
theorem Alk.up : ∀ {n : Nat} {x : PyData}, Alk n x → Alk (n + 1) x
  | 0, x, h => h.elim
  | n + 1, .list ds, h => ⟨h.1, fun y hy => Alk.up (h.2 y hy)⟩
  | n + 1, .tuple ds, h => ⟨h.1, fun y hy => Alk.up (h.2 y hy)⟩
  | n + 1, .dict _, h => h.elim
  | n + 1, .str z, h => h
  | n + 1, .none, _ => trivial
  | n + 1, .bool _, _ => trivial
  | n + 1, .int _, _ => trivial
theorem alk_list {n : Nat} {ds : List PyData} (hz : ds.length ≤ 1000) (h : ∀ y ∈ ds, Alk n y) : Alk (n + 1) (.list ds) := ⟨hz, h⟩
theorem alk_tuple {n : Nat} {ds : List PyData} (hz : ds.length ≤ 1000) (h : ∀ y ∈ ds, Alk n y) : Alk (n + 1) (.tuple ds) := ⟨hz, h⟩
theorem alk_int {n : Nat} {i : Int} : Alk (n + 1) (.int i) := trivial
theorem alk_none {n : Nat} : Alk (n + 1) .none := trivial
theorem alk_bool {n : Nat} {b : Bool} : Alk (n + 1) (.bool b) := trivial
theorem alk_str {n : Nat} {z : Str} (h : PyData.strOk z = true) : Alk (n + 1) (.str z) := h
theorem alk_opt {n : Nat} {o : Option Int} : Alk (n + 1) (optI o) := by cases o <;> trivial
theorem Dd.ok.alk {d : Dd} (h : d.ok) {n : Nat} : Alk (n + 2) d.e := alk_tuple (by show 5 ≤ 1000; decide) fun y hy => by
  simp only [List.mem_cons, List.not_mem_nil, or_false] at hy
  rcases hy with rfl | rfl | rfl | rfl | rfl
  · exact alk_int
  · exact alk_int
  · exact alk_str (strOk_word h.word)
  · exact alk_str (strOk_key h.key)
  · exact alk_int
theorem alk_dds {l : List Dd} (h : ∀ d ∈ l, d.ok) (hz : l.length ≤ 1000) {n : Nat} : Alk (n + 3) (.list (l.map Dd.e)) := alk_list (by rw [List.length_map]; exact hz) fun y hy => by
  obtain ⟨d, hd, rfl⟩ := List.mem_map.mp hy
  exact (h d hd).alk
theorem alk_ints {l : List Int} (hz : l.length ≤ 1000) {n : Nat} : Alk (n + 2) (.list (l.map .int)) := alk_list (by rw [List.length_map]; exact hz) fun y hy => by
  obtain ⟨d, hd, rfl⟩ := List.mem_map.mp hy
  exact alk_int
theorem Kp.ok.alk {k : Kp} (h : k.ok) {n : Nat} : Alk (n + 4) k.e := alk_tuple (by show 4 ≤ 1000; decide) fun y hy => by
  simp only [List.mem_cons, List.not_mem_nil, or_false] at hy
  rcases hy with rfl | rfl | rfl | rfl
  · exact alk_dds h.dl h.ll
  · exact alk_int
  · exact alk_dds h.dd h.ld
  · exact alk_ints h.lu
theorem Ch.ok.alk {c : Ch} (h : c.ok) : Alk 6 c.e := alk_tuple (by show 2 ≤ 1000; decide) fun y hy => by
  simp only [List.mem_cons, List.not_mem_nil, or_false] at hy
  rcases hy with rfl | rfl
  · exact alk_list (by rw [List.length_map]; exact h.lk) fun y hy => by
      obtain ⟨k, hk, rfl⟩ := List.mem_map.mp hy
      exact (h.kp k hk).alk
  · cases e : c.co with
    | none => exact alk_none
    | some l => exact alk_dds (h.lc l e).2 (h.lc l e).1
end Ck

namespace Ck
open PySem PySem.Spec PyProof.Rows L2

/-! ### several except clauses, each with a name for what was raised -/
def wNamed (K : PySem.W.Frag) (Wout : WX) (D : Ends) : List (Value × Nat × (Addr → Value → Option Addr → TS)) → WX
  | [] => Wout
  | (c, i, ts) :: r => wAs K c i ts (wNamed K Wout D r) D
inductive HdsAs (X : Cx) : List ExceptHandler → List (Value × Nat × (Addr → Value → Option Addr → TS)) → Prop
  | nil : HdsAs X [] []
  | cons {x n : Str} {c : Value} {i : Nat} {ts : Addr → Value → Option Addr → TS} {b₀ : Stmt} {suite : List Stmt} {np pos' : Pos} {hds : List ExceptHandler} {l : List (Value × Nat × (Addr → Value → Option Addr → TS))} (hi : X.N[i]? = some n) (hln : X.env.kindOf n = some .local) (hc : Names X x c)
      (hsu : ∀ (a : Addr) (oe : Obj) (cls : Value) (d : Option Addr) (pn : List (Addr × Obj)), Zc cls d oe → (∃ vs, oe.data = .fields vs) → PSs (X.suite a ((a, oe) :: pn)) (b₀ :: suite) (ts a cls d)) (r : HdsAs X hds l) :
      HdsAs X (.ExceptHandler (some (.Name x np)) (some n) (b₀ :: suite) pos' :: hds) ((c, i, ts) :: l)
section
variable {X : Cx} {body : List Stmt} {h₀ : ExceptHandler} {hds : List ExceptHandler} {l : List (Value × Nat × (Addr → Value → Option Addr → TS))} {pos : Pos} {tb : WX → TS} {Wout : WX}
theorem ps_try_named (hs : X.stack = X.env :: X.outer) (hf : X.env.frame = some X.env.locals) (hN : X.N.Nodup) (tk : Takes X Wout)
    (hb : ∀ (W : WX) (pn : List (Addr × Obj)) (xe : Value → Shared → Prop), Takes (X.tr pn xe) W → PassesOwn (model X.prog X.w) X.A X.env xe → PSs (X.tr pn xe) body (tb W))
    (hh : HdsAs X (h₀ :: hds) l) : PS X (.Try body (h₀ :: hds) [] [] pos) (fun D σ H => tb (wNamed X.K Wout D l) D σ H) := by
  refine ⟨fun pins s σ H D I h => ?_⟩
  have ok := I.ok
  have hfr : X.A.frames = some (X.env :: X.outer) := by rw [ok.frames, hs]
  have body_ := (hb (wNamed X.K Wout D l) (X.pn ++ pins) (fun e s₁ => wpAny (model X.prog X.w) X.A (noteFrame e X.env) (fun _ s₂ => wpAny (model X.prog X.w) X.A (setFlight e none) (fun _ s₃ =>
    wpAny (model X.prog X.w) X.A (handleBy e X.env (h₀ :: hds)) (SP X pins D) X.xe s₃) X.xe s₂) X.xe s₁) (fun u s' xx => ?_) PassesOwn.looking).run [] s σ H D (I.toTry _) h
  · refine wpAny_Try_except (wpAny_mono body_ (fun f s1 q => ?_) fun e s1 he => he)
    cases f with
    | next =>
      obtain ⟨σ', H', J', q⟩ := q
      exact wpAny_execs_nil ⟨σ', H', J'.ofTry ok, q⟩
    | ret u =>
      obtain ⟨v, σ', H', J', r, q⟩ := q
      exact ⟨v, σ', H', J'.ofTry ok, r, q⟩
    | _ =>
      obtain ⟨σ', H', J', q⟩ := q
      exact ⟨σ', H', J'.ofTry ok, q⟩
  obtain ⟨a, B, sI, pins', σ', H', cls, d, rfl, J', nb, up, sky, na, os, ag, w⟩ := xx
  have J : Inv X pins σ' H' sI := J'.ofTry ok
  show wpAny (model X.prog X.w) X.A (noteFrame (.ref a) X.env) _ _ _
  refine Sky.land Zc.steady hfr hf (by rw [← hs]; exact sky) fun h3 fl3 up3 => ?_
  have J3 : Inv X pins σ' H' { s' with heap := h3 } := J.landed nb fl3.1 (up.trans up3) os ag
  obtain ⟨oe3, vs3, he3, hz3, hd3⟩ := fl3.there
  have nfr : a ∉ frs (X.env :: X.outer) := fun hm => by
    obtain ⟨_, o', e', hnf⟩ := Heap.FunFrames.mem fl3.2.2.1 hm
    rw [he3] at e'; cases e'
    exact hnf _ hd3
  have nL : a ≠ X.env.locals := fun z => nfr (List.mem_filterMap.mpr ⟨X.env, List.mem_cons_self, by rw [hf, z]⟩)
  have nF : a ∉ X.fs := fun hm => by
    obtain ⟨e, he, q⟩ := List.mem_filterMap.mp hm
    exact nfr (List.mem_filterMap.mpr ⟨e, List.mem_cons_of_mem _ he, q⟩)
  have S3 := J3.suite he3 hd3 na nL nF
  have go : ∀ {hds' : List ExceptHandler} {l' : List (Value × Nat × (Addr → Value → Option Addr → TS))}, HdsAs X hds' l' → wNamed X.K Wout D l' cls d σ' H' →
      wpAny (model X.prog X.w) X.A (handleBy (.ref a) X.env hds') (SP X pins D) X.xe { s' with heap := h3 } := by
    intro hds' l' hk
    induction hk with
    | nil =>
      intro w
      refine wpAny_handleBy_nil ?_
      obtain ⟨k1, k2, k3, oe, vs, T, oT, ts', he, hz, hd, h1, hr⟩ := id fl3
      unfold PySem.passOn
      refine wpAny_bind (wpAny_field he hd h1 ?_)
      rw [if_neg (show ¬ ((Value.ref T == Value.none) = true) from by simp)]
      have fin : wpAny (model X.prog X.w) X.A (setFlight (.ref a) X.env.frame) (fun _ s4 => wpAny (model X.prog X.w) X.A (throw (.ref a) : Sem Flow) (SP X pins D) X.xe s4) X.xe { s' with heap := h3 } := by
        rw [hf]
        refine HandSPX.setFlight_upZ fl3 fun h4 hh4 up4 => wpAny_throw (tk _ _ ?_)
        exact ⟨a, B, sI, pins, σ', H', cls, d, rfl, J, nb, (up.trans up3).trans up4, .inr (.inr (by rw [hs]; exact hh4)), na, os, ag, w⟩
      first
        | exact wpAny_bind (wpAny_pure (wpAny_bind fin))
        | exact wpAny_bind fin
    | @cons x n c i ts b₀ suite np pos' hds2 l2 hi hln hc hsu r ih =>
      intro w
      obtain ⟨b, hb1, hyes, hno⟩ := w
      refine wpAny_handleBy_cons (codeAny_handlers_test ?_) (by intro q; cases q)
      have LT : PySem.W.Looks (model X.prog X.w) h3 (typeOf (.ref a)) cls := fun A Q E s k q => wpAny_typeOf_ref (k _ _ he3) (by rw [hz3.1]; exact q)
      have LM := PySem.W.exm_one (M := model X.prog X.w) (J3.kIn) LT hb1
      have test : ∀ {Q : Value → Shared → Prop} {E : Value → Shared → Prop}, Q c { s' with heap := h3 } → wpAny (model X.prog X.w) (X.A.mark (some (.ref a))) (eval (.Name x np) X.env) Q E { s' with heap := h3 } := fun {Q E} q => by
        obtain ⟨hg, hdbg, hm | ⟨hm, hv, hnn⟩⟩ := hc
        · exact ld_glob (X := X.suite a ((a, oe3) :: (X.pn ++ pins))) S3 hg hm q hdbg
        · exact ld_blt (X := X.suite a ((a, oe3) :: (X.pn ++ pins))) S3 hg hm hv q hnn hdbg
      refine test (LM.here ?_)
      cases b with
      | true =>
        refine codeAny_handlers_suite_as ?_
        refine HandSPX.lands_againZ fl3 fun h4 fl4 up4 => ?_
        have J4 : Inv X pins σ' H' { s' with heap := h4 } := J.landed nb fl4.1 ((up.trans up3).trans up4) os ag
        obtain ⟨oe4, vs4, he4, hz4, hd4⟩ := fl4.there
        have S4 := J4.suite he4 hd4 na nL nF
        refine store_ok (X := X.suite a ((a, oe4) :: (X.pn ++ pins))) (v := .ref a) S4 hN hi (.inl hln) rfl (fun s5 S5 => ?_) (.inr hln)
        refine wpAny_mono ((hsu a oe4 cls d (X.pn ++ pins) hz4 ⟨_, hd4⟩).run [] s5 _ H' _ S5 (hyes rfl a na)) (fun f s6 hsp => ?_) (fun _ _ z => False.elim z)
        have end_ : ∀ {σ6 : L2.St} {H6 : Hp} {Q : Shared → Prop}, Inv (X.suite a ((a, oe4) :: (X.pn ++ pins))) [] σ6 H6 s6 → (∀ s7, Inv X pins (σ6.set i none) H6 s7 → Q s7) →
            wpAny (model X.prog X.w) X.A (do bindName X.env n .none; unbindBehindTheSuite X.env n pos') (fun _ s7 => Q s7) X.xe s6 := fun {σ6 H6 Q} S6 hq => gone_ok (S6.unsuite ok) hN hi hln hq
        cases f with
        | ret u =>
          obtain ⟨v6, σ6, H6, S6, r6, q6⟩ := hsp
          exact end_ S6 fun s7 J7 => ⟨_, _, _, J7, r6, q6⟩
        | _ =>
          obtain ⟨σ6, H6, S6, q6⟩ := hsp
          exact end_ S6 fun s7 J7 => ⟨_, _, J7, q6⟩
      | false =>
        show wpAny _ X.A (handleBy (.ref a) X.env hds2) _ _ _
        exact ih (hno rfl)
  exact go hh w
end
section
variable {K : PySem.W.Frag} {B : Bs} {Γ : List Sl} {nx bk ct : L2.St → Hp → Prop} {rt : VK} {i : Nat}
theorem at_wAs_miss {cv cls : Value} {dd : Option Addr} {ts : Addr → Value → Option Addr → TS} {Wout : WX} {D : Ends} (hm : PySem.W.exmOne K cls cv = some false) (q : At B Γ (fun σ H => Wout cls dd σ H)) :
    At B Γ (fun σ H => wAs K cv i ts Wout D cls dd σ H) := fun G σ H ok => ⟨false, hm, fun z => (by cases z), fun _ => q G σ H ok⟩
end
end Ck

namespace Ck
open PySem PySem.Spec PyProof.Rows L2

/-! ### an exception that is kept -/
/-- an exception object of the class cls at a, as much as isinstance asks -/
def ExZ (cls : Value) (a : Addr) : HO := .ext fun h => ∃ (oe : Obj) (vs : Array Value), h.get? a = some oe ∧ Zc cls none oe ∧ oe.data = .fields vs
theorem exZ_ok {P : Program} {w : World} {H : Hp} {h : Heap} {a : Addr} {cls : Value} {oe : Obj} {vs : Array Value} (e : h.get? a = some oe) (z : Zc cls none oe) (d : oe.data = .fields vs) : ObjOk P w H h a (ExZ cls a) :=
  ⟨⟨oe, vs, e, z, d⟩, ⟨oe, e⟩, fun _ _ ⟨o, v, q, r⟩ k => ⟨o, v, k o q, r⟩⟩
section
variable {X : Cx} {pins : List (Addr × Obj)} {σ : L2.St} {H : Hp} {s : Shared}
/-- an object that stands in the heap untracked, and was not there at the entry, is tracked -/
theorem inv_track {a : Addr} {cls : Value} {oe : Obj} {vs : Array Value} (I : L2.Inv X pins σ H s) (hn : H a = none) (h0 : X.s_0.heap.get? a = none) (he : s.heap.get? a = some oe) (hz : Zc cls none oe) (hd : oe.data = .fields vs) (hl : a ≠ X.env.locals) (hp : ∀ p ∈ X.pn ++ pins, p.1 ≠ a) : L2.Inv X pins σ (upd H a (ExZ cls a)) s := by
  have ne0 : ∀ b o, X.s_0.heap.get? b = some o → b ≠ a := fun b o e z => by
    rw [z, h0] at e
    cases e
  refine ⟨I.ok, I.os, I.bare, ⟨I.base.keep, I.base.slot, fun b o e n hq => ?_, I.base.there, fun b xs e => ?_, fun b o u e => ?_, fun b ps e => ?_⟩, I.loc, I.cell, ?_, fun x c e => ?_, fun p hpm => ?_, fun b u e => ?_, I.len⟩
  · rw [upd_ne (ne0 b o e)]
    exact I.base.free b o e n hq
  · have q := I.base.tups b xs e
    rw [upd_ne (ne_of_none q hn)]
    exact q
  · have q := I.base.frzs b o u e
    rw [upd_ne (ne_of_none q hn)]
    exact q
  · obtain ⟨m, q⟩ := I.base.tbls b ps e
    exact ⟨m, by rw [upd_ne (ne_of_none q hn)]; exact q⟩
  · rw [upd_ne (Ne.symm hl)]
    exact I.free
  · have hc : c ≠ a := fun z => by
      obtain ⟨v, o, ho, hdv⟩ := I.cell x c e
      rw [z, he] at ho
      cases ho
      rw [hd] at hdv
      cases hdv
    rw [upd_ne hc]
    exact I.freeC x c e
  · obtain ⟨e, n, ne, nf, d⟩ := I.pin p hpm
    exact ⟨e, by rw [upd_ne (hp p hpm)]; exact n, ne, nf, d⟩
  · by_cases hb : b = a
    · subst hb
      rw [upd_same] at e
      cases e
      exact exZ_ok he hz hd
    · rw [upd_ne hb] at e
      exact (I.hok b u e).stay (fun c v _ q => q) (fun c q => by rw [upd_ne (ne_of_none q hn)]; exact q) fun c xs q => by rw [upd_ne (ne_of_none q hn)]; exact q
end
/-- what the clause 'except x as n' wishes, where the exception may live on behind the suite -/
def wKeep (K : PySem.W.Frag) (c : Value) (i : Nat) (ts : Addr → Value → Option Addr → TS) (Wout : WX) (D : Ends) : WX := fun cls d σ H =>
  ∃ b, PySem.W.exmOne K cls c = some b ∧ (b = true → d = none ∧ ∀ a, H a = none → ts a cls d { nx := fun σ' H' => H' a = none → D.nx (σ'.set i none) (upd H' a (ExZ cls a)), rt := D.rt, bk := fun σ' H' => D.bk (σ'.set i none) H', ct := fun σ' H' => D.ct (σ'.set i none) H' } (σ.set i (some (.ref a))) H) ∧
    (b = false → Wout cls d σ H)
section
variable {X : Cx} {x n : Str} {c : Value} {i : Nat} {body suite : List Stmt} {b₀ : Stmt} {np pos pos' : Pos} {tb : WX → TS} {ts : Addr → Value → Option Addr → TS} {Wout : WX}
theorem ps_try_keep (hx : X.ex = []) (hs : X.stack = X.env :: X.outer) (hf : X.env.frame = some X.env.locals) (hN : X.N.Nodup) (hi : X.N[i]? = some n) (hln : X.env.kindOf n = some .local) (hc : Names X x c) (tk : Takes X Wout)
    (hb : ∀ (W : WX) (pn : List (Addr × Obj)) (xe : Value → Shared → Prop), Takes (X.tr pn xe) W → PassesOwn (model X.prog X.w) X.A X.env xe → PSs (X.tr pn xe) body (tb W))
    (hsu : ∀ (a : Addr) (oe : Obj) (cls : Value) (d : Option Addr) (pn : List (Addr × Obj)), Zc cls d oe → (∃ vs, oe.data = .fields vs) → PSs (X.suite a ((a, oe) :: pn)) (b₀ :: suite) (ts a cls d)) :
    PS X (.Try body [.ExceptHandler (some (.Name x np)) (some n) (b₀ :: suite) pos'] [] [] pos) (fun D σ H => tb (wKeep X.K c i ts Wout D) D σ H) := by
  refine ⟨fun pins s σ H D I h => ?_⟩
  have ok := I.ok
  have hfr : X.A.frames = some (X.env :: X.outer) := by rw [ok.frames, hs]
  have body_ := (hb (wKeep X.K c i ts Wout D) (X.pn ++ pins) (fun e s₁ => wpAny (model X.prog X.w) X.A (noteFrame e X.env) (fun _ s₂ => wpAny (model X.prog X.w) X.A (setFlight e none) (fun _ s₃ =>
    wpAny (model X.prog X.w) X.A (handleBy e X.env [.ExceptHandler (some (.Name x np)) (some n) (b₀ :: suite) pos']) (SP X pins D) X.xe s₃) X.xe s₂) X.xe s₁) (fun u s' xx => ?_) PassesOwn.looking).run [] s σ H D (I.toTry _) h
  · refine wpAny_Try_except (wpAny_mono body_ (fun f s1 q => ?_) fun e s1 he => he)
    cases f with
    | next =>
      obtain ⟨σ', H', J', q⟩ := q
      exact wpAny_execs_nil ⟨σ', H', J'.ofTry ok, q⟩
    | ret u =>
      obtain ⟨v, σ', H', J', r, q⟩ := q
      exact ⟨v, σ', H', J'.ofTry ok, r, q⟩
    | _ =>
      obtain ⟨σ', H', J', q⟩ := q
      exact ⟨σ', H', J'.ofTry ok, q⟩
  obtain ⟨a, B, sI, pins', σ', H', cls, d, rfl, J', nb, up, sky, na, os, ag, b, hb1, hyes, hno⟩ := xx
  have J : L2.Inv X pins σ' H' sI := J'.ofTry ok
  show wpAny (model X.prog X.w) X.A (noteFrame (.ref a) X.env) _ _ _
  refine Sky.land Zc.steady hfr hf (by rw [← hs]; exact sky) fun h3 fl3 up3 => ?_
  have J3 : L2.Inv X pins σ' H' { s' with heap := h3 } := J.landed nb fl3.1 (up.trans up3) os ag
  obtain ⟨oe3, vs3, he3, hz3, hd3⟩ := fl3.there
  have nfr : a ∉ frs (X.env :: X.outer) := fun hm => by
    obtain ⟨_, o', e', hnf⟩ := Heap.FunFrames.mem fl3.2.2.1 hm
    rw [he3] at e'; cases e'
    exact hnf _ hd3
  have nL : a ≠ X.env.locals := fun z => nfr (List.mem_filterMap.mpr ⟨X.env, List.mem_cons_self, by rw [hf, z]⟩)
  have nF : a ∉ X.fs := fun hm => by
    obtain ⟨e, he, q⟩ := List.mem_filterMap.mp hm
    exact nfr (List.mem_filterMap.mpr ⟨e, List.mem_cons_of_mem _ he, q⟩)
  -- not there ahead of the exception
  have sIa : sI.heap.get? a = none := by
    cases e : sI.heap.get? a with
    | none => rfl
    | some o =>
      have := nb a o e (by
        show a ∉ frs X.stack
        rw [hs]; exact nfr)
      rw [fl3.2.1] at this
      cases this
  have h0 : X.s_0.heap.get? a = none := by
    cases e : X.s_0.heap.get? a with
    | none => rfl
    | some o =>
      obtain ⟨o', q⟩ := J.base.there a o e (by rw [hx]; exact fun z => nomatch z)
      rw [sIa] at q
      cases q
  have hp : ∀ p ∈ X.pn ++ pins, p.1 ≠ a := fun p hm z => by
    have := (J.pin p hm).1
    rw [z, sIa] at this
    cases this
  have S3 := J3.suite he3 hd3 na nL nF
  refine wpAny_handleBy_cons (codeAny_handlers_test ?_) (by intro q; cases q)
  have LT : PySem.W.Looks (model X.prog X.w) h3 (typeOf (.ref a)) cls := fun A Q E s k q => wpAny_typeOf_ref (k _ _ he3) (by rw [hz3.1]; exact q)
  have LM := PySem.W.exm_one (M := model X.prog X.w) (J3.kIn) LT hb1
  have test : ∀ {Q : Value → Shared → Prop} {E : Value → Shared → Prop}, Q c { s' with heap := h3 } → wpAny (model X.prog X.w) (X.A.mark (some (.ref a))) (eval (.Name x np) X.env) Q E { s' with heap := h3 } := fun {Q E} q => by
    obtain ⟨hg, hdbg, hm | ⟨hm, hv, hnn⟩⟩ := hc
    · exact ld_glob (X := X.suite a ((a, oe3) :: (X.pn ++ pins))) S3 hg hm q hdbg
    · exact ld_blt (X := X.suite a ((a, oe3) :: (X.pn ++ pins))) S3 hg hm hv q hnn hdbg
  refine test (LM.here ?_)
  cases b with
  | true =>
    obtain ⟨hd0, hyes⟩ := hyes rfl
    subst hd0
    refine codeAny_handlers_suite_as ?_
    refine HandSPX.lands_againZ fl3 fun h4 fl4 up4 => ?_
    have J4 : L2.Inv X pins σ' H' { s' with heap := h4 } := J.landed nb fl4.1 ((up.trans up3).trans up4) os ag
    obtain ⟨oe4, vs4, he4, hz4, hd4⟩ := fl4.there
    have S4 := J4.suite he4 hd4 na nL nF
    refine store_ok (X := X.suite a ((a, oe4) :: (X.pn ++ pins))) (v := .ref a) S4 hN hi (.inl hln) rfl (fun s5 S5 => ?_) (.inr hln)
    refine wpAny_mono ((hsu a oe4 cls none (X.pn ++ pins) hz4 ⟨_, hd4⟩).run [] s5 _ H' _ S5 (hyes a na)) (fun f s6 hsp => ?_) (fun _ _ z => False.elim z)
    have end_ : ∀ {σ6 : L2.St} {H6 : Hp} {Q : Shared → Prop}, L2.Inv (X.suite a ((a, oe4) :: (X.pn ++ pins))) [] σ6 H6 s6 → (∀ s7, L2.Inv (X.suite a ((a, oe4) :: (X.pn ++ pins))) [] (σ6.set i none) H6 s7 → Q s7) →
        wpAny (model X.prog X.w) X.A (do bindName X.env n .none; unbindBehindTheSuite X.env n pos') (fun _ s7 => Q s7) X.xe s6 := fun {σ6 H6 Q} S6 hq => gone_ok (X := X.suite a ((a, oe4) :: (X.pn ++ pins))) S6 hN hi hln hq
    cases f with
    | next =>
      obtain ⟨σ6, H6, S6, q6⟩ := hsp
      refine end_ S6 fun s7 S7 => ?_
      obtain ⟨e7, n7, _⟩ := S7.pin (a, oe4) (List.mem_append_left _ List.mem_cons_self)
      have J7 : L2.Inv X pins (σ6.set i none) H6 s7 := S7.unsuite ok
      exact ⟨_, _, inv_track J7 n7 h0 e7 hz4 hd4 nL hp, q6 n7⟩
    | ret u =>
      obtain ⟨v6, σ6, H6, S6, r6, q6⟩ := hsp
      exact end_ S6 fun s7 S7 => ⟨_, _, _, S7.unsuite ok, r6, q6⟩
    | _ =>
      obtain ⟨σ6, H6, S6, q6⟩ := hsp
      exact end_ S6 fun s7 S7 => ⟨_, _, S7.unsuite ok, q6⟩
  | false =>
    show wpAny _ X.A (handleBy (.ref a) X.env []) _ _ _
    refine wpAny_handleBy_nil ?_
    obtain ⟨k1, k2, k3, oe, vs, T, oT, ts', he, hz, hd, h1, hr⟩ := id fl3
    unfold PySem.passOn
    refine wpAny_bind (wpAny_field he hd h1 ?_)
    rw [if_neg (show ¬ ((Value.ref T == Value.none) = true) from by simp)]
    have fin : wpAny (model X.prog X.w) X.A (setFlight (.ref a) X.env.frame) (fun _ s4 => wpAny (model X.prog X.w) X.A (throw (.ref a) : Sem Flow) (SP X pins D) X.xe s4) X.xe { s' with heap := h3 } := by
      rw [hf]
      refine HandSPX.setFlight_upZ fl3 fun h4 hh4 up4 => wpAny_throw (tk _ _ ?_)
      exact ⟨a, B, sI, pins, σ', H', cls, d, rfl, J, nb, (up.trans up3).trans up4, .inr (.inr (by rw [hs]; exact hh4)), na, os, ag, hno rfl⟩
    first
      | exact wpAny_bind (wpAny_pure (wpAny_bind fin))
      | exact wpAny_bind fin
end
/-! isinstance of what is kept or made -/
/-- isinstance(e, c), e an exception that is tracked -/
def rIsO (K : PySem.W.Frag) : List V → Hp → VK → Prop := fun xs H Q => ∃ (a D : Addr) (c : V) (cv : Value) (b : Bool), xs = [.ref a, c] ∧ (H a = some (ExZ (.ref D) a) ∨ H a = some (ExO (.ref D) a)) ∧ ExcC K D ∧ (∀ u, RelV c u → u = cv) ∧ PySem.W.kitOne K (.ref D) cv = some b ∧ Q (.bl b) H
theorem call_isO {X : Cx} : CallR X (.builtin "isinstance") (rIsO X.K) := by
  intro pins s σ H xs us Q I r h
  obtain ⟨a, D, c, cv, b, rfl, ha, C, hcv, e, q⟩ := h
  cases r with
  | cons rx rr =>
    cases rr with
    | cons rt rr =>
      cases rr
      cases rx
      have ec := hcv _ rt
      subst ec
      obtain ⟨oe, vs, hget, hz, hv⟩ : ∃ (oe : Obj) (vs : Array Value), s.heap.get? a = some oe ∧ Zc (.ref D) none oe ∧ oe.data = .fields vs := by
        rcases ha with ha | ha
        · obtain ⟨⟨oe, vs, h1, h2, h3⟩, _⟩ := I.hok a _ ha
          exact ⟨oe, vs, h1, h2, h3⟩
        · obtain ⟨⟨oe, vs, h1, h2, h3, _⟩, _⟩ := I.hok a _ ha
          exact ⟨oe, vs, h1, h2, h3⟩
      have J : PySem.W.InstAt s.heap a oe D none := by
        obtain ⟨oc, od, oda, osl⟩ := oe
        obtain ⟨h1, h2⟩ := hz
        dsimp only at h1 h2 hv
        subst h1 h2 hv
        exact ⟨hget, rfl, rfl, trivial⟩
      exact PySem.W.kia_one (PySem.W.handS_kitx_exc C.hg C.hk C.hs C.hd C.ha C.hn C.ht C.hm) I.kIn J e (fun z => nomatch z) fun tk => ⟨.bl b, H, I.kept (t' := tk) fun _ _ z => z, rfl, q⟩
end Ck

namespace Ck
open PySem PySem.Spec PyProof.Rows L2

/-! ### exceptions as values -/
/-- v is an exception of class D -/
def XO (G : Hp) (D : Addr) (v : V) : Prop := ∃ a, v = .ref a ∧ (G a = some (ExZ (.ref D) a) ∨ G a = some (ExO (.ref D) a))
theorem XO.up {G G' : Hp} {D : Addr} {v : V} (h : XO G D v) (e : Ex G G') : XO G' D v := by
  obtain ⟨a, rfl, h⟩ := h
  exact ⟨a, rfl, h.imp (e _ _) (e _ _)⟩
inductive XOs (G : Hp) : List V → List Addr → Prop
  | nil : XOs G [] []
  | cons {v : V} {vs : List V} {D : Addr} {Ds : List Addr} : XO G D v → XOs G vs Ds → XOs G (v :: vs) (D :: Ds)
theorem XOs.up {G G' : Hp} (e : Ex G G') : ∀ {vs : List V} {Ds : List Addr}, XOs G vs Ds → XOs G' vs Ds
  | _, _, .nil => .nil
  | _, _, .cons h r => .cons (h.up e) (XOs.up e r)
theorem XOs.len {G : Hp} : ∀ {vs : List V} {Ds : List Addr}, XOs G vs Ds → vs.length = Ds.length
  | _, _, .nil => rfl
  | _, _, .cons _ r => by rw [List.length_cons, List.length_cons, XOs.len r]
theorem XOs.app {G : Hp} : ∀ {vs ws : List V} {Ds Es : List Addr}, XOs G vs Ds → XOs G ws Es → XOs G (vs ++ ws) (Ds ++ Es)
  | _, _, _, _, .nil, s => s
  | _, _, _, _, .cons h r, s => .cons h (XOs.app r s)
theorem XOs.get {G : Hp} : ∀ {vs : List V} {Ds : List Addr} {k : Nat} {D : Addr}, XOs G vs Ds → Ds[k]? = some D → ∃ v, vs[k]? = some v ∧ XO G D v
  | _, _, _, _, .nil, h => by cases h
  | _, _, 0, _, .cons h r, e => by cases e; exact ⟨_, rfl, h⟩
  | _, _, k + 1, _, .cons h r, e => XOs.get (k := k) r e
/-- a slot with an exception of class D -/
def xvS (D : Addr) : Sl := .gx fun G o => ∃ v, o = some (some v) ∧ XO G D v
/-- a slot with a list of exceptions -/
def xlS (Ds : List Addr) : Sl := .gx fun G o => ∃ l vs, o = some (some (.ref l)) ∧ Rd G l (.lst vs) ∧ XOs G vs Ds
theorem xvS_ok {G H : Hp} {v : V} {D : Addr} {f : List Addr} (h : XO G D v) : SlOk G H (some (some v)) f (xvS D) := fun G' e => ⟨v, rfl, h.up e⟩
theorem xlS_ok {G H : Hp} {l : Addr} {vs : List V} {Ds : List Addr} {f : List Addr} (h : Rd G l (.lst vs)) (r : XOs G vs Ds) : SlOk G H (some (some (.ref l))) f (xlS Ds) := fun G' e => ⟨l, vs, rfl, e.rd h, r.up e⟩
def EvX (te : TE) (Γ : List Sl) (D : Addr) : Prop := ∀ (B : Bs) (G : Hp) (σ : L2.St) (H : Hp), Ok B G σ H Γ → ∀ Q : VK, (∀ v G' H', Stp G H G' H' → XO G' D v → Q v H') → te σ H Q
def EvXs (ta : TA) (Γ : List Sl) (Ds : List Addr) : Prop := ∀ (B : Bs) (G : Hp) (σ : L2.St) (H : Hp), Ok B G σ H Γ → ∀ Q : List V → Hp → Prop, (∀ vs G' H', Stp G H G' H' → XOs G' vs Ds → Q vs H') → ta σ H Q
section
variable {K : PySem.W.Frag} {B : Bs} {Γ Γ' : List Sl} {te tb tj : TE} {ta : TA} {D C : Addr} {Ds Es : List Addr} {i : Nat} {nx bk ct : L2.St → Hp → Prop} {rt : VK} {d : PyData}
theorem evx_var (e : Γ[i]? = some (xvS D)) : EvX (tVar i) Γ D := fun B G σ H ok Q q => by
  obtain ⟨F, k⟩ := ok
  obtain ⟨v, e1, h⟩ := k.sl i _ e G (Ex.rfl' G)
  exact ⟨v, e1, q v G H (Stp.rfl' k.st.gh) h⟩
theorem evx_make (h : Ev te Γ d) : EvX (fun σ H Q => te σ H fun _ H1 => ∀ a, H1 a = none → Q (.ref a) (upd H1 a (ExO (.ref D) a))) Γ D := fun B G σ H ok Q q =>
  h B G σ H ok _ fun v G1 H1 s1 r1 a ha => q (.ref a) _ _ (s1.tr (Stp.new s1.gh ha)) ⟨a, rfl, .inr upd_same⟩
theorem exs_nil : EvXs tNil Γ [] := fun B G σ H ok Q q => q [] G H (Stp.rfl' ok.gh) .nil
theorem exs_cons (h : EvX te Γ D) (hr : EvXs ta Γ Ds) : EvXs (tCons te ta) Γ (D :: Ds) := fun B G σ H ok Q q =>
  h B G σ H ok _ fun v G1 H1 s1 r1 => hr B G1 σ H1 (ok.step s1) _ fun vs G2 H2 s2 r2 => q (v :: vs) G2 H2 (s1.tr s2) (.cons (r1.up s2.g) r2)
theorem at_setXL (h : EvXs ta Γ Ds) (hz : Ds.length ≤ sizeLine) (hs : SetAt Γ i (xlS Ds) Γ') (q : At B Γ' nx) : At B Γ (tAsg (tLst ta) (gName i) ⟨nx, rt, bk, ct⟩) := fun G σ H ok =>
  h B G σ H ok _ fun vs G1 H1 s1 r1 => ⟨by rw [r1.len]; exact hz, fun p hp =>
    q _ _ _ (hs.eq ▸ Ok.setF ok (s1.tr (Stp.new s1.gh hp)) i (f := []) (xlS_ok (.inl upd_same) (r1.up (Ex.new (s1.gh.no hp)))) fun a m => by cases m)⟩
theorem at_catXL {j : Nat} (e : Γ[j]? = some (xlS Ds)) (h : EvXs ta Γ Es) (hz : Ds.length + Es.length ≤ sizeLine) (hs : SetAt Γ i (xlS (Ds ++ Es)) Γ') (q : At B Γ' nx) : At B Γ (tAsg (tOp (rAddU K) (tVar j) (tLst ta)) (gName i) ⟨nx, rt, bk, ct⟩) := fun G σ H ok => by
  obtain ⟨F, k⟩ := ok
  obtain ⟨l, us, e1, hd, ru⟩ := k.sl j _ e G (Ex.rfl' G)
  refine ⟨.ref l, e1, ?_⟩
  refine h B G σ H ⟨F, k⟩ _ fun vs G1 H1 s1 r1 => ⟨by rw [r1.len]; omega, fun p hp => ?_⟩
  have s2 := s1.tr (Stp.new s1.gh hp (o := .lst vs))
  refine .inr (.inr (.inl ⟨_, _, _, _, rfl, rfl, s2.gh.rd (s2.g.rd hd), .inl upd_same, by rw [ru.len, r1.len]; exact hz, fun p2 hp2 => ?_⟩))
  exact q _ _ _ (hs.eq ▸ Ok.setF ⟨F, k⟩ (s2.tr (Stp.new s2.gh hp2)) i (f := []) (xlS_ok (.inl upd_same) (((ru.up s2.g).app (r1.up (Ex.new (s1.gh.no hp)))).up (Ex.new (s2.gh.no hp2)))) fun a m => by cases m)
theorem evx_ix {j k : Nat} (e : Γ[j]? = some (xlS Ds)) (h : Ev tj Γ (.int k)) (hk : Ds[k]? = some D) : EvX (tOp (rIx K) (tVar j) tj) Γ D := fun B G σ H ok Q q => by
  obtain ⟨F, kk⟩ := ok
  obtain ⟨l, us, e1, hd, ru⟩ := kk.sl j _ e G (Ex.rfl' G)
  refine ⟨.ref l, e1, ?_⟩
  refine h B G σ H ⟨F, kk⟩ _ fun v G1 H1 s1 r1 => ?_
  cases r1
  obtain ⟨w, hw, rw'⟩ := ru.get hk
  exact .inl ⟨_, _, (k : Int), w, rfl, rfl, rd_sql (s1.gh.rd (s1.g.rd hd)), atI_of hw, q w G1 H1 s1 (rw'.up s1.g)⟩
theorem ev_isO {b : Bool} (h : EvX te Γ D) (hC : ExcC K D) (hk : PySem.W.kitOne K (.ref D) (.ref C) = some b) : Ev (tCB (rIsO K) (tCons te (tCons (tC (.ref C)) tNil))) Γ (.bool b) := fun B G σ H ok Q q =>
  h B G σ H ok _ fun v G1 H1 s1 ⟨a, ea, ha⟩ => by
    subst ea
    exact ⟨a, D, .ref C, .ref C, b, rfl, ha.imp (s1.gh _ _) (s1.gh _ _), hC, fun u r => (show u = Value.ref C from r), hk, q _ G1 H1 s1 (.bl b)⟩
theorem ev_isOty {b : Bool} {T : String} (h : EvX te Γ D) (hC : ExcC K D) (hk : PySem.W.kitOne K (.ref D) (.type T) = some b) : Ev (tCB (rIsO K) (tCons te (tCons (tC (.ty T)) tNil))) Γ (.bool b) := fun B G σ H ok Q q =>
  h B G σ H ok _ fun v G1 H1 s1 ⟨a, ea, ha⟩ => by
    subst ea
    exact ⟨a, D, .ty T, .type T, b, rfl, ha.imp (s1.gh _ _) (s1.gh _ _), hC, fun u r => (show u = Value.type T from r), hk, q _ G1 H1 s1 (.bl b)⟩
theorem e1_x (h : EvX te Γ D) : Es1 te Γ [] (xvS D) := fun B G σ H F k Q q => h B G σ H ⟨F, k⟩ Q fun v G' H' st r => q v [] G' H' st (xvS_ok r) fun _ m => by cases m
/-- behind the suite of ps_try_keep -/
theorem at_wKeep {cv cls : Value} {ts : Addr → Value → Option Addr → TS} {Wout : WX} (hm : PySem.W.exmOne K cls cv = some true)
    (q : ∀ a, At B (Γ.set i (.ex a)) (ts a cls none { nx := fun σ' H' => H' a = none → nx (σ'.set i none) (upd H' a (ExZ cls a)), rt := rt, bk := fun σ' H' => bk (σ'.set i none) H', ct := fun σ' H' => ct (σ'.set i none) H' })) :
    At B Γ (fun σ H => wKeep K cv i ts Wout ⟨nx, rt, bk, ct⟩ cls none σ H) := fun G σ H ok => ⟨true, hm, fun _ => ⟨rfl, fun a _ => q a G _ H (ok.setE i a)⟩, fun z => by cases z⟩
theorem at_kept {a : Addr} {j : Nat} {k : L2.St → Hp → Prop} (e : Γ[j]? = some (.ex a)) (hij : i ≠ j) (hs : (Γ.set i .un).set j (xvS D) = Γ') (q : At B Γ' k) : At B Γ (fun σ' H' => H' a = none → k (σ'.set i none) (upd H' a (ExZ (.ref D) a))) := fun G σ H ok ha => by
  have h1 : σ[j]? = some (some (.ref a)) := ok.exc e
  have ok2 := (ok.setU i none).step (Stp.new ok.gh ha (o := ExZ (.ref D) a))
  have h2 : (σ.set i none).set j (some (.ref a)) = σ.set i none := by
    refine List.ext_getElem? fun n => ?_
    by_cases hn : j = n
    · subst hn
      have hl : j < σ.length := (List.getElem?_eq_some_iff.mp h1).1
      rw [List.getElem?_set_self (by rw [List.length_set]; exact hl), List.getElem?_set_ne hij, h1]
    · rw [List.getElem?_set_ne hn]
  have ok3 := Ok.setF ok2 (Stp.rfl' ok2.gh) j (v := .ref a) (s := xvS D) (f := []) (xvS_ok ⟨a, rfl, .inl upd_same⟩) fun a m => by cases m
  rw [h2, hs] at ok3
  exact q _ _ _ ok3
theorem at_setEx {a : Addr} {j : Nat} (e : Γ[j]? = some (.ex a)) (hs : SetAt Γ i (.ex a) Γ') (q : At B Γ' nx) : At B Γ (tAsg (tVar j) (gName i) ⟨nx, rt, bk, ct⟩) := fun G σ H ok => ⟨.ref a, ok.exc e, q G _ H (hs.eq ▸ ok.setE i a)⟩
end
/-! a def that gives an exception back as a value -/
def spXr (n : Nat) (R : List PyData → Addr → Prop) : Sp := fun vs H Q _ => ∃ ds D G, Ex G H ∧ Rps G vs ds ∧ ds.length = n ∧ R ds D ∧ ∀ v G' H', Stp G H G' H' → XO G' D v → Q v H'
abbrev RtX (B : Bs) (Q : VK) (D : Addr) : Prop := ∀ v G H, Stp B.g0 B.h0 G H → XO G D v → Q v H
section
variable {P : Program} {w : World} {K : PySem.W.Frag} {mg : Str → Option Value} {base : Heap} {x : Str} {st : Stmt} {N ps : List Str} {k n : Nat} {R : List PyData → Addr → Prop}
theorem mkXr (h : Has K mg x st) (hb : BindsP x st ps) (S : FnScope N ps (defScope st)) (hn : ps.length = n)
    (hbody : ∀ (f : Addr) (cdv : Value) (A : Around) (outer : List Env) (s : Shared) (H : Hp) (E : XK), Room k (A.deeper (envOfC x (defScope st) s.heap.objs.size f cdv)) →
      ∃ t, PSs (cxOf CX0 P w K mg base N x (defScope st) f cdv A outer s H E).nox (defBody st) t ∧ ∀ (ds : List PyData) (D : Addr) (B : Bs) (Q : VK), ds.length = n → R ds D → RtX B Q D → At B (sls N.length ds) (t { nx := fun _ H' => Q .non H', rt := Q })) : Def P w K mg base CX0 (k + 1) x ps (spXr n R) :=
  mk_def h hb S (fun vs H Q E ⟨ds, D, G, e, r, l, _⟩ => by rw [r.length]; exact l.trans hn.symm) fun f cdv A outer s H vs Q E hr hsp => by
    obtain ⟨t, h1, h2⟩ := hbody f cdv A outer s H E hr
    obtain ⟨ds, D, G, e, r, l, hR, q⟩ := hsp
    exact ⟨t, h1.nox, h2 ds D ⟨G, G, H⟩ Q l hR q G _ H (ok_start e r)⟩
end
section
variable {K : PySem.W.Frag} {B : Bs} {Γ : List Sl} {te : TE} {ta : TA} {D : Addr} {n : Nat} {R : List PyData → Addr → Prop} {ds : List PyData} {E : XK} {nx bk ct : L2.St → Hp → Prop} {rt : VK}
theorem at_rtX (h : EvX te Γ D) (q : RtX B rt D) : At B Γ (tRet te ⟨nx, rt, bk, ct⟩) := fun G σ H ok => h B G σ H ok _ fun v G' H' s r => q v G' H' (ok.step s).st r
theorem evx_call (h : EvA ta Γ ds) (hn : ds.length = n) (hR : R ds D) : EvX (tCall (spXr n R) [] E ta) Γ D := fun B G σ H ok Q q =>
  h B G σ H ok _ fun vs G1 H1 s1 r1 => by
    rw [List.append_nil]
    exact ⟨ds, D, G1, s1.gh, r1, hn, hR, fun v G' H' s r => q v G' H' (s1.tr s) r⟩
end
end Ck

namespace Ck
open PySem PySem.Spec PyProof.Rows L2
def signsS : Str := "abcdefghijklmnopqrstuvwxyz "
theorem signsS_len : signsS.cps.toList.length = 27 := by decide +kernel
def placeI (ns : List Int) (k : Nat) : Int := (cellAt ns 1 * ((k : Int) + 1) + (k : Int) * k) % 27
def signZ (ns : List Int) (k : Nat) : Str := ⟨#[signsS.cps.toList.getD (placeI ns k).toNat 0]⟩
def textZ (ns : List Int) : Nat → Str
  | 0 => ""
  | k + 1 => textZ ns k ++ signZ ns k
theorem sign_at (ns : List Int) (k : Nat) : atI signsS.cps.toList (placeI ns k) = some (signsS.cps.toList.getD (placeI ns k).toNat 0) := by
  have h0 := Int.emod_nonneg (cellAt ns 1 * ((k : Int) + 1) + (k : Int) * k) (show (27 : Int) ≠ 0 by decide)
  have h1 := Int.emod_lt_of_pos (cellAt ns 1 * ((k : Int) + 1) + (k : Int) * k) (show (0 : Int) < 27 by decide)
  change 0 ≤ placeI ns k at h0
  change placeI ns k < 27 at h1
  refine atI_int h0 ?_
  rw [List.getD_eq_getElem?_getD, List.getElem?_eq_getElem (by rw [signsS_len]; omega)]; rfl
theorem textZ_len (ns : List Int) : ∀ k, (textZ ns k).length = k
  | 0 => rfl
  | k + 1 => by
    have ih := textZ_len ns k
    have e : (textZ ns (k + 1)).length = (textZ ns k).length + (signZ ns k).length := Array.size_append
    rw [e, ih]; rfl
def textG (ns : List Int) : Str := textZ ns (cellAt ns 0 % 13).toNat
def R_text (ds : List PyData) (d : PyData) : Prop := ∃ ns : List Int, ds = [scr ns] ∧ ns.length ≤ 63 ∧ d = .str (textG ns)
def kindsN : List Str := ["BadDeed", "BadKey", "BadTurn", "OtherDeed", "NoStep", "NoKeeper", "OnlyKeeper", "OneComing", "TooMany", "KeepError"]
def kindsB (nm : Str) : List PyData := (kindsN.map fun y => .bool (isX nm y)) ++ [.bool true]
def R_kindsX (K : PySem.W.Frag) (ss : List Sl) (o : Oc) : Prop := ∃ nm, nm ∈ kindsN.take 9 ∧ ss = [xvS (He.ga K nm)] ∧ o = .ok (.list (kindsB nm))
def R_met (K : PySem.W.Frag) (ds : List PyData) (D : Addr) : Prop := ∃ ns : List Int, ds = [scr ns] ∧ ns.length ≤ 63 ∧ D = He.ga K "BadDeed"
theorem ev_callGx {K : PySem.W.Frag} {Γ : List Sl} {te : TE} {D : Addr} {R : List Sl → Oc → Prop} {E : XK} {d : PyData} (h : EvX te Γ D) (hR : R [xvS D] (.ok d)) : Ev (tCall (spG WD K 1 R) [] E (tCons te tNil)) Γ d := fun B G σ H ok Q q =>
  h B G σ H ok _ fun v G1 H1 s1 r1 => by
    show spG WD K 1 R ([v] ++ []) H1 Q E
    rw [List.append_nil]
    refine ⟨[xvS D], .ok d, G1, H1, fun _ => [], rfl, ⟨Ex.rfl' _, Stp.rfl' s1.gh, rfl, (fun i s e => ?_), (fun i a m => by cases m), (fun i j a _ m => by cases m)⟩, hR, fun v' G' H' s r => q v' G' H' (s1.tr s) r⟩
    cases i with
    | zero => cases e; exact xvS_ok r1
    | succ i => cases e
theorem kinds_at : ∀ k, k < 9 → kindsB ((kindsN.take 9).getD k "") = ((List.range 9).map fun j => PyData.bool (decide (j = k))) ++ [.bool true, .bool true] := by
  intro k hk
  have h : ∀ k, k < 9 → (kindsN.map fun y => isX ((kindsN.take 9).getD k "") y) = ((List.range 9).map fun j => decide (j = k)) ++ [true] := by decide +kernel
  have e := congrArg (fun l : List Bool => l.map PyData.bool) (h k hk)
  unfold kindsB
  simp only [List.map_append, List.map_map, List.map_cons, List.map_nil] at e
  rw [show (kindsN.map fun y => PyData.bool (isX ((kindsN.take 9).getD k "") y)) = kindsN.map (PyData.bool ∘ fun y => isX ((kindsN.take 9).getD k "") y) from rfl, e, List.append_assoc]
  rfl
def R_law (ds : List PyData) (d : PyData) : Prop := ∃ ns : List Int, ds = [scr ns] ∧ ns.length ≤ 63 ∧ d = .bool true
end Ck
namespace Ck
open PySem PySem.Spec PyProof.Rows L2
def topS (i : Nat) : Stmt := PySem.Challenge.pw_chainkeep_k15_refusals_made.main.body.getD i (.Pass ⟨0, 0, 0, 0⟩)
abbrev s_is_number : Stmt := topS 2
abbrev N_is_number : List Str := ["thing"]
theorem sc_is_number : FnScope N_is_number ["thing"] (defScope s_is_number) := ⟨rfl, rfl, rfl, by decide +kernel, rfl, by decide +kernel, by decide +kernel⟩
theorem b_is_number : BindsP "is_number" s_is_number ["thing"] := fun _ _ _ _ _ _ us hl => match us, hl with | [_], _ => rfl
abbrev s_is_key : Stmt := topS 3
abbrev N_is_key : List Str := ["thing", "sign"]
theorem sc_is_key : FnScope N_is_key ["thing"] (defScope s_is_key) := ⟨rfl, rfl, rfl, by decide +kernel, rfl, by decide +kernel, by decide +kernel⟩
theorem b_is_key : BindsP "is_key" s_is_key ["thing"] := fun _ _ _ _ _ _ us hl => match us, hl with | [_], _ => rfl
abbrev s_is_deed : Stmt := topS 4
abbrev N_is_deed : List Str := ["thing"]
theorem sc_is_deed : FnScope N_is_deed ["thing"] (defScope s_is_deed) := ⟨rfl, rfl, rfl, by decide +kernel, rfl, by decide +kernel, by decide +kernel⟩
theorem b_is_deed : BindsP "is_deed" s_is_deed ["thing"] := fun _ _ _ _ _ _ us hl => match us, hl with | [_], _ => rfl
abbrev s_begun : Stmt := topS 18
abbrev N_begun : List Str := ["many", "place"]
theorem sc_begun : FnScope N_begun ["many"] (defScope s_begun) := ⟨rfl, rfl, rfl, by decide +kernel, rfl, by decide +kernel, by decide +kernel⟩
theorem b_begun : BindsP "begun" s_begun ["many"] := fun _ _ _ _ _ _ us hl => match us, hl with | [_], _ => rfl
abbrev s_keeper_of : Stmt := topS 19
abbrev N_keeper_of : List Str := ["keeper"]
theorem sc_keeper_of : FnScope N_keeper_of ["keeper"] (defScope s_keeper_of) := ⟨rfl, rfl, rfl, by decide +kernel, rfl, by decide +kernel, by decide +kernel⟩
theorem b_keeper_of : BindsP "keeper_of" s_keeper_of ["keeper"] := fun _ _ _ _ _ _ us hl => match us, hl with | [_], _ => rfl
abbrev s_chain_of : Stmt := topS 20
abbrev N_chain_of : List Str := ["keepers", "coming", "keeper"]
theorem sc_chain_of : FnScope N_chain_of ["keepers", "coming"] (defScope s_chain_of) := ⟨rfl, rfl, rfl, by decide +kernel, rfl, by decide +kernel, by decide +kernel⟩
theorem b_chain_of : BindsP "chain_of" s_chain_of ["keepers", "coming"] := fun _ _ _ _ _ _ us hl => match us, hl with | [_, _], _ => rfl
abbrev s_with_keeper : Stmt := topS 21
abbrev N_with_keeper : List Str := ["chain", "place", "keeper", "keepers"]
theorem sc_with_keeper : FnScope N_with_keeper ["chain", "place", "keeper"] (defScope s_with_keeper) := ⟨rfl, rfl, rfl, by decide +kernel, rfl, by decide +kernel, by decide +kernel⟩
theorem b_with_keeper : BindsP "with_keeper" s_with_keeper ["chain", "place", "keeper"] := fun _ _ _ _ _ _ us hl => match us, hl with | [_, _, _], _ => rfl
abbrev s_at_end : Stmt := topS 22
abbrev N_at_end : List Str := ["keeper", "deed", "last", "log"]
theorem sc_at_end : FnScope N_at_end ["keeper", "deed", "last"] (defScope s_at_end) := ⟨rfl, rfl, rfl, by decide +kernel, rfl, by decide +kernel, by decide +kernel⟩
theorem b_at_end : BindsP "at_end" s_at_end ["keeper", "deed", "last"] := fun _ _ _ _ _ _ us hl => match us, hl with | [_, _, _], _ => rfl
abbrev s_take : Stmt := topS 23
abbrev N_take : List Str := ["chain", "deed", "keeper", "same", "one"]
theorem sc_take : FnScope N_take ["chain", "deed"] (defScope s_take) := ⟨rfl, rfl, rfl, by decide +kernel, rfl, by decide +kernel, by decide +kernel⟩
theorem b_take : BindsP "take" s_take ["chain", "deed"] := fun _ _ _ _ _ _ us hl => match us, hl with | [_, _], _ => rfl
abbrev s__law_cell_at : Stmt := topS 25
abbrev N__law_cell_at : List Str := ["_law_script", "_law_k"]
theorem sc__law_cell_at : FnScope N__law_cell_at ["_law_script", "_law_k"] (defScope s__law_cell_at) := ⟨rfl, rfl, rfl, by decide +kernel, rfl, by decide +kernel, by decide +kernel⟩
theorem b__law_cell_at : BindsP "_law_cell_at" s__law_cell_at ["_law_script", "_law_k"] := fun _ _ _ _ _ _ us hl => match us, hl with | [_, _], _ => rfl
abbrev s__law_text : Stmt := topS 26
abbrev N__law_text : List Str := ["_law_script", "_law_text_here", "_law_k"]
theorem sc__law_text : FnScope N__law_text ["_law_script"] (defScope s__law_text) := ⟨rfl, rfl, rfl, by decide +kernel, rfl, by decide +kernel, by decide +kernel⟩
theorem b__law_text : BindsP "_law_text" s__law_text ["_law_script"] := fun _ _ _ _ _ _ us hl => match us, hl with | [_], _ => rfl
abbrev s__law_kinds : Stmt := topS 27
abbrev N__law_kinds : List Str := ["_law_error", "_law_found"]
theorem sc__law_kinds : FnScope N__law_kinds ["_law_error"] (defScope s__law_kinds) := ⟨rfl, rfl, rfl, by decide +kernel, rfl, by decide +kernel, by decide +kernel⟩
theorem b__law_kinds : BindsP "_law_kinds" s__law_kinds ["_law_error"] := fun _ _ _ _ _ _ us hl => match us, hl with | [_], _ => rfl
abbrev s__law_met : Stmt := topS 28
abbrev N__law_met : List Str := ["_law_script", "_law_met_here", "_law_error"]
theorem sc__law_met : FnScope N__law_met ["_law_script"] (defScope s__law_met) := ⟨rfl, rfl, rfl, by decide +kernel, rfl, by decide +kernel, by decide +kernel⟩
theorem b__law_met : BindsP "_law_met" s__law_met ["_law_script"] := fun _ _ _ _ _ _ us hl => match us, hl with | [_], _ => rfl
abbrev s_law : Stmt := topS 29
abbrev N_law : List Str := ["_law_script", "_law_text_here", "_law_made", "_law_k", "_law_j"]
theorem sc_law : FnScope N_law ["_law_script"] (defScope s_law) := ⟨rfl, rfl, rfl, by decide +kernel, rfl, by decide +kernel, by decide +kernel⟩
theorem b_law : BindsP "law" s_law ["_law_script"] := fun _ _ _ _ _ _ us hl => match us, hl with | [_], _ => rfl
abbrev YN : List Str := ["KeepError", "BadDeed", "BadKey", "BadTurn", "OtherDeed", "NoStep", "NoKeeper", "OnlyKeeper", "OneComing", "TooMany"]
abbrev XN : List Str := ["BadDeed", "BadKey", "BadTurn", "OtherDeed", "NoStep", "NoKeeper", "OnlyKeeper", "OneComing", "TooMany"]
structure Tx (K : PySem.W.Frag) (mg : Str → Option Value) : Prop where
  z_ValueError : mg "ValueError" = none
  z_all : mg "all" = none
  z_bool : mg "bool" = none
  z_int : mg "int" = none
  z_isinstance : mg "isinstance" = none
  z_len : mg "len" = none
  z_list : mg "list" = none
  z_range : mg "range" = none
  z_str : mg "str" = none
  z_tuple : mg "tuple" = none
  c_LETTERS : ∃ t, mg "LETTERS" = some (.str "abcdefghijklmnopqrstuvwxyz" t)
  c_MOST_KEEPERS : ∃ t, mg "MOST_KEEPERS" = some (.int 9 t)
  f_is_number : Has K mg "is_number" s_is_number
  f_is_key : Has K mg "is_key" s_is_key
  f_is_deed : Has K mg "is_deed" s_is_deed
  f_begun : Has K mg "begun" s_begun
  f_keeper_of : Has K mg "keeper_of" s_keeper_of
  f_chain_of : Has K mg "chain_of" s_chain_of
  f_with_keeper : Has K mg "with_keeper" s_with_keeper
  f_at_end : Has K mg "at_end" s_at_end
  f_take : Has K mg "take" s_take
  f__law_cell_at : Has K mg "_law_cell_at" s__law_cell_at
  f__law_text : Has K mg "_law_text" s__law_text
  f__law_kinds : Has K mg "_law_kinds" s__law_kinds
  f__law_met : Has K mg "_law_met" s__law_met
  g_KeepError : mg "KeepError" = some (.ref (He.ga K "KeepError"))
  x_KeepError : PySem.W.excIn K (He.ga K "KeepError") He.veBase "ValueError.__new__" = true ∧ PySem.W.keepIn K (.ref (He.ga K "KeepError")) = true ∧ PySem.W.subIn K (.ref (He.ga K "KeepError")) (.type "BaseException") = some true ∧ PySem.W.typeIn K (.ref (He.ga K "KeepError")) = some (.type "type")
  g_BadDeed : mg "BadDeed" = some (.ref (He.ga K "BadDeed"))
  x_BadDeed : PySem.W.excIn K (He.ga K "BadDeed") He.veBase "ValueError.__new__" = true ∧ PySem.W.keepIn K (.ref (He.ga K "BadDeed")) = true ∧ PySem.W.subIn K (.ref (He.ga K "BadDeed")) (.type "BaseException") = some true ∧ PySem.W.typeIn K (.ref (He.ga K "BadDeed")) = some (.type "type")
  g_BadKey : mg "BadKey" = some (.ref (He.ga K "BadKey"))
  x_BadKey : PySem.W.excIn K (He.ga K "BadKey") He.veBase "ValueError.__new__" = true ∧ PySem.W.keepIn K (.ref (He.ga K "BadKey")) = true ∧ PySem.W.subIn K (.ref (He.ga K "BadKey")) (.type "BaseException") = some true ∧ PySem.W.typeIn K (.ref (He.ga K "BadKey")) = some (.type "type")
  g_BadTurn : mg "BadTurn" = some (.ref (He.ga K "BadTurn"))
  x_BadTurn : PySem.W.excIn K (He.ga K "BadTurn") He.veBase "ValueError.__new__" = true ∧ PySem.W.keepIn K (.ref (He.ga K "BadTurn")) = true ∧ PySem.W.subIn K (.ref (He.ga K "BadTurn")) (.type "BaseException") = some true ∧ PySem.W.typeIn K (.ref (He.ga K "BadTurn")) = some (.type "type")
  g_OtherDeed : mg "OtherDeed" = some (.ref (He.ga K "OtherDeed"))
  x_OtherDeed : PySem.W.excIn K (He.ga K "OtherDeed") He.veBase "ValueError.__new__" = true ∧ PySem.W.keepIn K (.ref (He.ga K "OtherDeed")) = true ∧ PySem.W.subIn K (.ref (He.ga K "OtherDeed")) (.type "BaseException") = some true ∧ PySem.W.typeIn K (.ref (He.ga K "OtherDeed")) = some (.type "type")
  g_NoStep : mg "NoStep" = some (.ref (He.ga K "NoStep"))
  x_NoStep : PySem.W.excIn K (He.ga K "NoStep") He.veBase "ValueError.__new__" = true ∧ PySem.W.keepIn K (.ref (He.ga K "NoStep")) = true ∧ PySem.W.subIn K (.ref (He.ga K "NoStep")) (.type "BaseException") = some true ∧ PySem.W.typeIn K (.ref (He.ga K "NoStep")) = some (.type "type")
  g_NoKeeper : mg "NoKeeper" = some (.ref (He.ga K "NoKeeper"))
  x_NoKeeper : PySem.W.excIn K (He.ga K "NoKeeper") He.veBase "ValueError.__new__" = true ∧ PySem.W.keepIn K (.ref (He.ga K "NoKeeper")) = true ∧ PySem.W.subIn K (.ref (He.ga K "NoKeeper")) (.type "BaseException") = some true ∧ PySem.W.typeIn K (.ref (He.ga K "NoKeeper")) = some (.type "type")
  g_OnlyKeeper : mg "OnlyKeeper" = some (.ref (He.ga K "OnlyKeeper"))
  x_OnlyKeeper : PySem.W.excIn K (He.ga K "OnlyKeeper") He.veBase "ValueError.__new__" = true ∧ PySem.W.keepIn K (.ref (He.ga K "OnlyKeeper")) = true ∧ PySem.W.subIn K (.ref (He.ga K "OnlyKeeper")) (.type "BaseException") = some true ∧ PySem.W.typeIn K (.ref (He.ga K "OnlyKeeper")) = some (.type "type")
  g_OneComing : mg "OneComing" = some (.ref (He.ga K "OneComing"))
  x_OneComing : PySem.W.excIn K (He.ga K "OneComing") He.veBase "ValueError.__new__" = true ∧ PySem.W.keepIn K (.ref (He.ga K "OneComing")) = true ∧ PySem.W.subIn K (.ref (He.ga K "OneComing")) (.type "BaseException") = some true ∧ PySem.W.typeIn K (.ref (He.ga K "OneComing")) = some (.type "type")
  g_TooMany : mg "TooMany" = some (.ref (He.ga K "TooMany"))
  x_TooMany : PySem.W.excIn K (He.ga K "TooMany") He.veBase "ValueError.__new__" = true ∧ PySem.W.keepIn K (.ref (He.ga K "TooMany")) = true ∧ PySem.W.subIn K (.ref (He.ga K "TooMany")) (.type "BaseException") = some true ∧ PySem.W.typeIn K (.ref (He.ga K "TooMany")) = some (.type "type")
  cls : ClsOk K XN YN
local macro_rules | `(tactic| k_memK) => `(tactic| first
  | with_reducible exact ev_int
  | with_reducible exact ev_str
  | with_reducible exact ev_bl
  | with_reducible exact ev_non
  | with_reducible exact ea_nil
  | with_reducible exact eo_none
  | with_reducible exact et_yes
  | ((with_reducible apply ev_var); rfl)
  | ((with_reducible apply ea_cons); k_memK; k_memK)
  | ((with_reducible apply ev_head); kas_types)
  | ((with_reducible apply ev_ixOwn); rfl; k_memK; k_allIn)
  | ((with_reducible apply ev_inR); k_memK; k_memK)
  | ((with_reducible apply ev_notInR); k_memK; k_memK)
  | ((with_reducible apply ev_op); k_memK; k_memK; k_subL)
  | ((with_reducible apply ev_un); k_memK; exact ru_neg)
  | ((with_reducible apply ev_tup); k_memK; k_ownIn)
  | ((with_reducible apply ev_lst); k_memK; k_ownIn)
  | ((with_reducible apply ev_isiIntB); k_memK; assumption)
  | ((with_reducible apply ev_isiInt); k_memK)
  | ((with_reducible apply ev_isiBoolB); k_memK; assumption)
  | ((with_reducible apply ev_isiBool); k_memK)
  | ((with_reducible apply ev_isiStrB); k_memK; assumption)
  | ((with_reducible apply ev_isiStr); k_memK)
  | ((with_reducible apply ev_isiListB); k_memK; assumption)
  | ((with_reducible apply ev_isiList); k_memK)
  | ((with_reducible apply ev_isiTupB); k_memK; assumption)
  | ((with_reducible apply ev_isiTup); k_memK)
  | ((with_reducible apply ev_isiDictB); k_memK; assumption)
  | ((with_reducible apply ev_isiDict); k_memK)
  | ((with_reducible apply ev_cb); k_memK; k_clsL)
  | ((with_reducible apply ev_sl); k_memK; k_memK; k_memK; k_offL)
  | ((with_reducible apply eo_some); k_memK)
  | ((with_reducible apply ev_bm); k_memK; k_memK; k_places)
  | ((with_reducible apply et_test); k_memK)
  | ((with_reducible apply et_B); k_memK)
  | ((with_reducible apply et_not); k_memK)
  | ((with_reducible apply et_and); k_memK; first | (intro _; k_memK) | exact et_no rfl)
  | ((with_reducible apply et_or); k_memK; first | (intro _; k_memK) | exact et_noO rfl)
  | ((with_reducible apply ev_andV); k_memK; first | (intro _; k_memK) | exact ev_no rfl)
  | ((with_reducible apply ev_orV); k_memK; first | (intro _; k_memK) | exact ev_noO rfl)
  | ((with_reducible apply ev_notV); k_memK))
local macro_rules | `(tactic| k_subL) => `(tactic| first
  | with_reducible exact rv_addI
  | with_reducible exact rv_sub
  | ((with_reducible apply rv_mulI); tlg_ne)
  | ((with_reducible apply rv_modP); first | decide | omega)
  | ((with_reducible apply rv_fdivP); first | exact ⟨by decide, by decide⟩ | exact ⟨by omega, by omega⟩)
  | ((with_reducible apply rv_pow); lcg_off)
  | with_reducible exact rv_lt
  | with_reducible exact rv_gt
  | with_reducible exact rv_le
  | with_reducible exact rv_ge
  | with_reducible exact rv_eqI
  | with_reducible exact rv_neI
  | with_reducible exact rv_eqB
  | with_reducible exact rv_neB
  | ((with_reducible apply rv_eqS) <;> lcg_sub)
  | ((with_reducible apply rv_neS) <;> lcg_sub)
  | ((with_reducible apply rv_eqNil); lcg_src)
  | ((with_reducible apply rv_neNil); lcg_src)
  | with_reducible exact rv_isN
  | with_reducible exact rv_notN
  | with_reducible exact rv_isB
  | ((with_reducible apply rv_ixT); k_allIn)
  | ((with_reducible apply rv_ixL); k_allIn)
  | ((with_reducible apply rv_ixS); k_ownIn; k_allIn)
  | ((with_reducible apply rv_addS); k_ownIn)
  | ((with_reducible apply rv_addT); k_ownIn)
  | ((with_reducible apply RvN.d); (with_reducible apply rvN_addL); k_ownIn)
  | with_reducible exact rv_inS
  | ((with_reducible apply rv_inT) <;> rfl)
  | ((with_reducible apply rv_notInT) <;> rfl))
local macro_rules | `(tactic| tlg_ne) => `(tactic| first
  | exact .inr ⟨by decide, by decide⟩
  | exact .inl ⟨by decide, by decide⟩
  | exact .inr ⟨by omega, by omega⟩
  | exact .inl ⟨by omega, by omega⟩)
local macro_rules | `(tactic| k_clsL) => `(tactic| first
  | with_reducible exact rc_lenL
  | with_reducible exact rc_lenT
  | ((with_reducible apply rc_lenS); k_ownIn)
  | with_reducible exact rc_max2
  | with_reducible exact rc_min2
  | with_reducible exact rc_intB
  | ((with_reducible apply RcN.d); with_reducible exact rcN_listL)
  | ((with_reducible apply RcN.d); with_reducible exact rcN_listT))
local macro_rules | `(tactic| k_offL) => `(tactic| first
  | ((with_reducible apply RsN.d); with_reducible exact rsN_L)
  | with_reducible exact rs_T
  | ((with_reducible apply rs_S); k_ownIn))
local macro_rules | `(tactic| k_places) => `(tactic| first
  | with_reducible exact rm_findK
  | with_reducible exact rm_countK
  | ((with_reducible apply rm_joinK); k_ownIn))
local macro_rules | `(tactic| k_allIn) => `(tactic| first | assumption | (with_reducible exact atI_cons0) | rfl)
local macro_rules | `(tactic| k_ownIn) => `(tactic| first | (exact sz_dec (Nat.le_of_ble_eq_true rfl)) | assumption | (exact sz_dec (by omega)) | (exact sz_dec (by simp; omega)))
local macro_rules | `(tactic| lcg_sub) => `(tactic| first | assumption | decide +kernel)
local macro_rules | `(tactic| lcg_src) => `(tactic| first | assumption | (exact ⟨_, by decide, by assumption⟩))
/-- statements -/
local macro_rules | `(tactic| l_intsC) => `(tactic| (k_updF; (with_reducible apply at_setA); (k_memK); (k_intsEnd)))
local macro_rules | `(tactic| k_updF) => `(tactic| repeat (first | (with_reducible apply at_seq) | (with_reducible apply at_next)))
local macro_rules | `(tactic| kxs_still) => `(tactic| (k_updF; (with_reducible apply at_ret); (k_memK)))
local macro_rules | `(tactic| l_intsW) => `(tactic| (k_updF; (with_reducible apply at_if); (k_memK)))
local macro_rules | `(tactic| kc_close) => `(tactic| (k_updF; (refine' at_rt ?h ?e (by assumption)); (case h => k_memK)))
local macro_rules | `(tactic| lcg_off) => `(tactic| exact ⟨by decide, by decide, by first | decide | omega⟩)
local macro_rules | `(tactic| kas_types) => `(tactic| first
  | keq_rows
  | ((with_reducible apply ev_mixed); k_memK; k_memK)
  | ((with_reducible apply ev_cell_at); k_memK; k_memK; first | decide | omega)
  | ((with_reducible apply ev_is_numberB (b := true)); k_memK; keq_hits)
  | ((with_reducible apply ev_is_numberB (b := false)); k_memK; keq_hits)
  | ((with_reducible apply ev_is_number); k_memK)
  | ((with_reducible apply ev_is_keyB (b := true)); k_memK; k_upd; keq_hits)
  | ((with_reducible apply ev_is_keyB (b := false)); k_memK; k_upd; keq_hits)
  | ((with_reducible apply ev_is_key); k_memK; k_upd))
local macro_rules | `(tactic| keq_hits) => `(tactic| first | assumption | rfl)
local macro_rules | `(tactic| k_upd) => `(tactic| first | assumption | exact And.left (by assumption) | trivial)
local macro_rules | `(tactic| k_intsEnd) => `(tactic| repeat (first | exact SetAt.zero | apply SetAt.succ))
local macro_rules | `(tactic| k_caught0) => `(tactic| (apply at_nf; rotate_left; (repeat (first | exact Nf.nil | apply Nf.cons))))
/-- what is one's own -/
local macro_rules | `(tactic| is_list) => `(tactic| first
  | ((with_reducible apply em_tup); is_tup; k_ownIn)
  | ((with_reducible apply em_lst); is_tup; k_ownIn)
  | with_reducible exact em_var rfl
  | (refine em_own rfl ?_; end_int)
  | with_reducible exact em_ownD rfl
  | end_str
  | (refine em_d ?_ ?_; k_memK; end_int))
local macro_rules | `(tactic| is_tup) => `(tactic| first
  | with_reducible exact ems_nil
  | ((with_reducible apply ems_cons); is_list; is_tup; decide))
local macro_rules | `(tactic| end_int) => `(tactic| first | assumption | rfl | exact noL_dd | exact noLs_map (fun _ => noL_dd) _ | exact noLs_map (fun _ => rfl) _)
local macro_rules | `(tactic| end_none) => `(tactic| (k_updF; (refine' at_rtO ?h ?e (by assumption)); (case h => is_list)))


section
variable {P : Program} {w : World} {K : PySem.W.Frag} {mg : Str → Option Value} {base : Heap}
theorem ok_is_number (T : Tx K mg) : Def P w K mg base CX0 1 "is_number" ["thing"] (spP 1 R_is_number) := by
  refine mkP T.f_is_number b_is_number sc_is_number rfl fun f cdv A outer s H E hr => ⟨_, (pss_one (ps_ret (pe_and (pe_callB (isi_K K) (by rfl) T.z_isinstance (by decide +kernel) (pa_cons (pv 0) (pa_cons (pe_bltn (v := .ty "int") (by rfl) T.z_int (by decide +kernel) rfl) pa_nil))) (pe_one (pe_not (pe_callB (isi_K K) (by rfl) T.z_isinstance (by decide +kernel) (pa_cons (pv 0) (pa_cons (pe_bltn (v := .ty "bool") (by rfl) T.z_bool (by decide +kernel) rfl) pa_nil)))))))), ?_⟩
  rintro ds d B Q hl ⟨x, rfl, rfl⟩ q
  kxs_still
  exact q

theorem ok_is_key (T : Tx K mg) : Def P w K mg base CX0 1 "is_key" ["thing"] (spP 1 R_is_key) := by
  refine mkP T.f_is_key b_is_key sc_is_key rfl fun f cdv A outer s H E hr => ⟨_, (pss_cons (ps_if (PW.pt (pw_or (pt_not (pt_val (pe_callB (isi_K K) (by rfl) T.z_isinstance (by decide +kernel) (pa_cons (pv 0) (pa_cons (pe_bltn (v := .ty "str") (by rfl) T.z_str (by decide +kernel) rfl) pa_nil))))) (pw_or (pt_cmpR op_lt (pe_callB (len_K K) (by rfl) T.z_len (by decide +kernel) (pa_cons (pv 0) pa_nil)) pe_int (nomark _)) (pw_or1 (pt_cmpR op_gt (pe_callB (len_K K) (by rfl) T.z_len (by decide +kernel) (pa_cons (pv 0) pa_nil)) pe_int (nomark _))))))
      (pss_one (ps_ret pe_bl))
      pss_nil)
      (pss_one (ps_ret (pe_callB (all_K K rfl) (by rfl) T.z_all (by decide +kernel) (pa_cons (pe_lc (own := [("sign", 1)]) (g := gName 1) (by rfl) sc_is_key.nd (pi_str (pv 0)) (blkOk_by (own := [("sign", 1)]) (N := N_is_key) (sc := defScope s_is_key) (by decide +kernel)) (fun _ _ _ _ _ => pg_name (i := 1) sc_is_key.nd rfl (Or.inl rfl)) (fun _ _ _ _ _ => pts_nil) (fun _ _ _ _ _ => (pe_cmpR (op_inK K (hu65 hr)) (pv 1) (pe_gstr T.c_LETTERS) (by with_unfolding_all rfl)))) pa_nil))))), ?_⟩
  rintro ds d B Q hl ⟨x, rfl, hs, rfl⟩ q
  cases x with
  | str z =>
    have hz : z.length ≤ sizeLine := sz_dec hs
    l_intsW
    · intro hb
      kxs_still
      rw [show isKeyD (.str z) = false by
        have hb' : (decide ((z.length : Int) < 1) || decide (8 < (z.length : Int))) = true := hb
        rw [Bool.or_eq_true, decide_eq_true_eq, decide_eq_true_eq] at hb'
        show (decide (1 ≤ z.length) && (decide (z.length ≤ 8) && lowD z)) = false
        rcases hb' with h | h
        · rw [decide_eq_false (by omega)]; rfl
        · rw [decide_eq_false (p := z.length ≤ 8) (by omega)]; simp] at q
      exact q
    · intro hb
      have hb' : (decide ((z.length : Int) < 1) || decide (8 < (z.length : Int))) = false := hb
      rw [Bool.or_eq_false_iff, decide_eq_false_iff_not, decide_eq_false_iff_not] at hb'
      apply at_next
      refine at_rt (d := .bool ((z.cps.toList.map fun c => decide (c ∈ LETTERS.cps.toList)).all id)) ?_ ?_ q
      · refine ev_cb (ea_cons (EvN.ev (evN_lcm (j := 1) sg z.cps.toList (fun c => .bool (decide (c ∈ LETTERS.cps.toList))) rfl (ei_str (by k_memK)) ?_ fun c hc => ?_)) ea_nil) ?_
        · have : z.cps.toList.length = z.length := by simp [Str.length]
          rw [this]; exact hz
        · refine ev_op (ev_var rfl) ev_str rv_inS
        · rw [show (z.cps.toList.map fun c => PyData.bool (decide (c ∈ LETTERS.cps.toList))) = (z.cps.toList.map fun c => decide (c ∈ LETTERS.cps.toList)).map PyData.bool by rw [List.map_map]; rfl]
          exact rc_all
      · have h : isKeyD (.str z) = lowD z := by
          show (decide (1 ≤ z.length) && (decide (z.length ≤ 8) && lowD z)) = lowD z
          rw [decide_eq_true (by omega), decide_eq_true (p := z.length ≤ 8) (by omega)]; rfl
        rw [h, List.all_map]; rfl
  | _ =>
    l_intsW
    · intro hb
      kxs_still
      exact q
    · intro hb; cases hb

theorem ok_is_deed (T : Tx K mg) : Def P w K mg base CX0 2 "is_deed" ["thing"] (spP 1 R_is_deed) := by
  refine mkP T.f_is_deed b_is_deed sc_is_deed rfl fun f cdv A outer s H E hr => ⟨_, (pss_cons (ps_if (PW.pt (pw_or (pt_not (pt_val (pe_callB (isi_K K) (by rfl) T.z_isinstance (by decide +kernel) (pa_cons (pv 0) (pa_cons (pe_bltn (v := .ty "tuple") (by rfl) T.z_tuple (by decide +kernel) rfl) pa_nil))))) (pw_or1 (pt_cmpR (op_neK K (hu64 hr)) (pe_callB (len_K K) (by rfl) T.z_len (by decide +kernel) (pa_cons (pv 0) pa_nil)) pe_int (nomark _)))))
      (pss_one (ps_ret pe_bl))
      pss_nil)
      (pss_cons (ps_if (PW.pt (pw_or (pt_not (pt_val (pe_callD (ok_is_number T) hr (pa_cons (pe_ix (ix_K K) (pv 0) pe_int (fun _ _ => rfl)) pa_nil)))) (pw_or (pt_cmpR op_lt (pe_ix (ix_K K) (pv 0) pe_int (fun _ _ => rfl)) pe_int (nomark _)) (pw_or (pt_cmpR op_gt (pe_ix (ix_K K) (pv 0) pe_int (fun _ _ => rfl)) pe_int (nomark _)) (pw_or (pt_not (pt_val (pe_callD (ok_is_number T) hr (pa_cons (pe_ix (ix_K K) (pv 0) pe_int (fun _ _ => rfl)) pa_nil)))) (pw_or1 (pt_cmpR op_lt (pe_ix (ix_K K) (pv 0) pe_int (fun _ _ => rfl)) pe_int (nomark _))))))))
      (pss_one (ps_ret pe_bl))
      pss_nil)
      (pss_cons (ps_if (PW.pt (pw_or (pt_not (pt_val (pe_callD (ok_is_key T) hr (pa_cons (pe_ix (ix_K K) (pv 0) pe_int (fun _ _ => rfl)) pa_nil)))) (pw_or (pt_not (pt_val (pe_callD (ok_is_number T) hr (pa_cons (pe_ix (ix_K K) (pv 0) pe_int (fun _ _ => rfl)) pa_nil)))) (pw_or1 (pt_not (pt_val (pe_callB (isi_K K) (by rfl) T.z_isinstance (by decide +kernel) (pa_cons (pe_ix (ix_K K) (pv 0) pe_int (fun _ _ => rfl)) (pa_cons (pe_bltn (v := .ty "str") (by rfl) T.z_str (by decide +kernel) rfl) pa_nil)))))))))
      (pss_one (ps_ret pe_bl))
      pss_nil)
      (pss_one (ps_ret (pe_or (pe_cmpR (op_inK K (hu65 hr)) (pe_ix (ix_K K) (pv 0) pe_int (fun _ _ => rfl)) (pe_tup (pa_cons pe_str (pa_cons pe_str (pa_cons pe_str pa_nil)))) (by with_unfolding_all rfl)) (pe_one (pe_and (pe_cmpR (op_eqK K (hu64 hr)) (pe_ix (ix_K K) (pv 0) pe_int (fun _ _ => rfl)) pe_str (nomark _)) (pe_one (pe_cmpR (op_eqK K (hu64 hr)) (pe_ix (ix_K K) (pv 0) pe_int (fun _ _ => rfl)) pe_int (nomark _))))))))))), ?_⟩
  rintro ds d B Q hl ⟨x, rfl, hs, rfl⟩ q
  rcases tup_or x with ⟨a, t, w, k, v, rfl⟩ | ⟨ds, rfl, hd⟩ | hx
  · have ha := hs a (by simp)
    have ht := hs t (by simp)
    have hw := hs w (by simp)
    have hk := hs k (by simp)
    have hv := hs v (by simp)
    l_intsW
    · intro hb; cases hb
    · intro _
      rcases num_or a with ⟨ai, rfl⟩ | hna
      · rcases num_or t with ⟨ti, rfl⟩ | hnt
        · l_intsW
          · intro hb
            kc_close
            simp only [Bool.not_true, Bool.false_or, Bool.or_eq_true, decide_eq_true_eq] at hb
            rw [show isDeedD (.tuple [.int ai, .int ti, w, k, v]) = false from isDeed5_no hb]
          · intro hb
            simp only [Bool.not_true, Bool.false_or, Bool.or_eq_false_iff, decide_eq_false_iff_not] at hb
            rcases num_or v with ⟨vi, rfl⟩ | hnv
            · rcases str_or w with ⟨ws, rfl⟩ | hsw
              · have hws : PyData.strOk ws = true := hw.2
                l_intsW
                · intro hb2
                  kc_close
                  have hk0 : isKeyD k = false := by simpa [isStrD] using hb2
                  rw [show isDeedD (.tuple [.int ai, .int ti, .str ws, k, .int vi]) = false from isDeed5_k (a := .int ai) (t := .int ti) (v := .int vi) hk0]
                · intro hb2
                  have hk1 : isKeyD k = true := by simpa [isStrD] using hb2
                  kc_close
                  rw [show isDeedD (.tuple [.int ai, .int ti, .str ws, k, .int vi]) = isWordS ws vi from isDeed5_w1 hb hk1]
                  exact congrArg PyData.bool (isWordS_eq ws vi)
              · l_intsW
                · intro _
                  kc_close
                  rw [show isDeedD (.tuple [.int ai, .int ti, w, k, .int vi]) = false from isDeed5_w hsw]
                · intro hb2
                  exfalso
                  simp [hsw] at hb2
            · l_intsW
              · intro _
                kc_close
                rw [show isDeedD (.tuple [.int ai, .int ti, w, k, v]) = false from isDeed5_v hnv]
              · intro hb2
                exfalso
                simp at hb2
        · l_intsW
          · intro _
            kc_close
            rw [show isDeedD (.tuple [.int ai, t, w, k, v]) = false from isDeed5_t hnt]
          · intro hb
            exfalso
            simp at hb
      · l_intsW
        · intro _
          kc_close
          rw [show isDeedD (.tuple [a, t, w, k, v]) = false from isDeed5_a hna]
        · intro hb; cases hb
  · l_intsW
    · intro hb
      kc_close
      rw [isDeed_len hd]
    · intro hb
      exfalso
      rw [show isTupD (.tuple ds) = true from rfl] at hb
      simp at hb
      omega
  · l_intsW
    · intro _
      kc_close
      rw [isDeed_tup hx]
    · intro hb; cases hb

theorem ok_begun (T : Tx K mg) : Def P w K mg base (L2.CX P w) 1 "begun" ["many"] (spW WO K 1 R_begun) := by
  refine mkX T.f_begun b_begun sc_begun rfl fun f cdv A outer s H E hr => ⟨_, (pss_cons (ps_if (PW.pt (pw_or (pt_cmpR op_lt (pv 0) pe_int (nomark _)) (pw_or1 (pt_cmpR op_gt (pv 0) (pe_gint T.c_MOST_KEEPERS) (nomark _)))))
      (pss_one (ps_raise rfl (takes_of rfl rfl rfl rfl) (pmk_own PySem.F.excBase_ValueError T.x_TooMany.1 T.g_TooMany T.x_TooMany.2.1 (raises_own T.x_TooMany.2.2.1 T.x_TooMany.2.2.2) (by exact rfl))))
      pss_nil)
      (pss_one (ps_ret (pe_tup (pa_cons (pe_lc (own := [("place", 1)]) (g := gName 1) (by rfl) sc_begun.nd (pi_range1 (by rfl) T.z_range (pa_cons (pv 0) pa_nil)) (blkOk_by (own := [("place", 1)]) (N := N_begun) (sc := defScope s_begun) (by decide +kernel)) (fun _ _ _ _ _ => pg_name (i := 1) sc_begun.nd rfl (Or.inl rfl)) (fun _ _ _ _ _ => pts_nil) (fun _ _ _ _ _ => (pe_tup (pa_cons (pe_lst pa_nil) (pa_cons pe_int (pa_cons (pe_lst pa_nil) (pa_cons (pe_lst pa_nil) pa_nil))))))) (pa_cons pe_non pa_nil)))))), ?_⟩
  rintro ds o B Q hl ⟨n, rfl, rfl⟩ q
  l_intsW
  · intro hb
    have h : n < 1 ∨ 9 < n := by simpa using hb
    unfold begunO at q
    rw [if_pos h] at q
    exact at_xq q
  · intro hb
    have h : ¬ (n < 1 ∨ 9 < n) := by simpa using hb
    unfold begunO at q
    rw [if_neg h] at q
    have q' : RtO B Q _ := q
    k_updF
    refine at_rtO (S := []) (em_tup (ems_cons (S1 := []) (S2 := []) (em_lcm (j := 1) (fun i : Nat => .int (0 + i)) (List.range n.toNat) (fun _ => nilK.e) rfl (ei_rng1 (by k_memK) (by omega) (by omega)) ?_ fun x hx => ?_) (ems_cons (S1 := []) (S2 := []) (em_d ev_non rfl) ems_nil (by decide)) (by decide)) (by k_ownIn)) ?_ q'
    · rw [List.length_range]; exact sz_dec (by omega)
    · show EvM _ _ [] (.tuple [.list [], .int 0, .list [], .list []])
      apply em_S
      · is_list
      · rfl
    · rw [List.map_const', List.length_range]
      show _ = PyData.tuple [.list ((List.replicate n.toNat nilK).map Kp.e), .none]
      rw [List.map_replicate]

theorem ok_keeper_of (T : Tx K mg) : Def P w K mg base CX0 1 "keeper_of" ["keeper"] (spW WO K 1 R_keeper_of) := by
  refine mkW T.f_keeper_of b_keeper_of sc_keeper_of rfl fun f cdv A outer s H E hr => ⟨_, (pss_one (ps_ret (pe_tup (pa_cons (pe_callTy (list_K K) (by rfl) T.z_list (by decide +kernel) (pa_cons (pe_ix (ix_K K) (pv 0) pe_int (fun _ _ => rfl)) pa_nil)) (pa_cons (pe_ix (ix_K K) (pv 0) pe_int (fun _ _ => rfl)) (pa_cons (pe_callTy (list_K K) (by rfl) T.z_list (by decide +kernel) (pa_cons (pe_ix (ix_K K) (pv 0) pe_int (fun _ _ => rfl)) pa_nil)) (pa_cons (pe_callTy (list_K K) (by rfl) T.z_list (by decide +kernel) (pa_cons (pe_ix (ix_K K) (pv 0) pe_int (fun _ _ => rfl)) pa_nil)) pa_nil))))))), ?_⟩
  rintro ds o B Q hl ⟨⟨l, s0, dn, up⟩, rfl, rfl⟩ q
  have q' : RtO B Q _ := q
  dsimp only [Kp.e]
  k_updF
  refine at_rtO (S := []) (em_tup (ems_cons (S1 := []) (S2 := []) (em_N (ds := l.map Dd.e) (evN_cb (xs := [.list (l.map Dd.e)]) (by k_memK) rcN_listL) (by end_int)) (ems_cons (S1 := []) (S2 := []) (em_d (by k_memK) rfl) (ems_cons (S1 := []) (S2 := []) (em_N (ds := dn.map Dd.e) (evN_cb (xs := [.list (dn.map Dd.e)]) (by k_memK) rcN_listL) (by end_int))
    (ems_cons (S1 := []) (S2 := []) (em_N (ds := up.map .int) (evN_cb (xs := [.list (up.map .int)]) (by k_memK) rcN_listL) (by end_int)) ems_nil (by decide)) (by decide)) (by decide)) (by decide)) (by k_ownIn)) rfl q'

theorem ok_chain_of (T : Tx K mg) : Def P w K mg base CX0 2 "chain_of" ["keepers", "coming"] (spW WO K 2 R_chain_of) := by
  refine mkW T.f_chain_of b_chain_of sc_chain_of rfl fun f cdv A outer s H E hr => ⟨_, (pss_cons (ps_if (pt_cmpR op_notN' (pv 1) pe_non (nomark _))
      (pss_one (ps_set (i := 1) sc_chain_of.nd rfl (Or.inl rfl) (pe_callTy (list_K K) (by rfl) T.z_list (by decide +kernel) (pa_cons (pv 1) pa_nil))))
      pss_nil)
      (pss_one (ps_ret (pe_tup (pa_cons (pe_lc (own := [("keeper", 2)]) (g := gName 2) (by rfl) sc_chain_of.nd (pi_listK K (pv 0)) (blkOk_by (own := [("keeper", 2)]) (N := N_chain_of) (sc := defScope s_chain_of) (by decide +kernel)) (fun _ _ _ _ _ => pg_name (i := 2) sc_chain_of.nd rfl (Or.inl rfl)) (fun _ _ _ _ _ => pts_nil) (fun _ _ _ _ _ => (pe_callD (ok_keeper_of T) hr (pa_cons (pv 2) pa_nil)))) (pa_cons (pv 1) pa_nil)))))), ?_⟩
  rintro ds o B Q hl ⟨⟨ks, co⟩, rfl, hz, rfl⟩ q
  have q' : RtO B Q _ := q
  have hz0 : ks.length ≤ 1001 := hz
  have hz' : ks.length ≤ sizeLine := sz_dec (by omega)
  cases co with
  | none =>
    l_intsW
    · intro hb; cases hb
    · intro _
      k_updF
      refine at_rtO (S := []) (em_tup (ems_cons (S1 := []) (S2 := []) (em_lcm (j := 2) Kp.e ks Kp.e rfl (ei_list (by k_memK)) hz' fun x hx => em_keeper_of (ev_var rfl)) (ems_cons (S1 := []) (S2 := []) (em_d (by k_memK) rfl) ems_nil (by decide)) (by decide)) (by k_ownIn)) rfl q'
  | some l =>
    l_intsW
    · intro _
      k_updF
      refine at_setNA (i := 1) (ds := l.map Dd.e) (evN_cb (xs := [.list (l.map Dd.e)]) (by k_memK) rcN_listL) (by k_intsEnd) ?_
      k_updF
      refine at_rtO (S := [1]) (em_tup (ems_cons (S1 := []) (S2 := [1]) (em_lcm (j := 2) Kp.e ks Kp.e rfl (ei_list (by k_memK)) hz' fun x hx => em_keeper_of (ev_var rfl)) (ems_cons (S1 := [1]) (S2 := []) (em_own (i := 1) rfl (by end_int)) ems_nil (by decide)) (by decide)) (by k_ownIn)) rfl q'
    · intro hb; cases hb

theorem ok_with_keeper (T : Tx K mg) : Def P w K mg base CX0 3 "with_keeper" ["chain", "place", "keeper"] (spW WO K 3 R_with_keeper) := by
  refine mkW T.f_with_keeper b_with_keeper sc_with_keeper rfl fun f cdv A outer s H E hr => ⟨_, (pss_cons (ps_set (i := 3) sc_with_keeper.nd rfl (Or.inl rfl) (pe_callTy (list_K K) (by rfl) T.z_list (by decide +kernel) (pa_cons (pe_ix (ix_K K) (pv 0) pe_int (fun _ _ => rfl)) pa_nil)))
      (pss_cons (ps_asg (pv 2) (pg_sub (pv 3) (pv 1) set_list))
      (pss_one (ps_ret (pe_callD (ok_chain_of T) hr (pa_cons (pv 3) (pa_cons (pe_ix (ix_K K) (pv 0) pe_int (fun _ _ => rfl)) pa_nil))))))), ?_⟩
  rintro ds o B Q hl ⟨⟨ks, co⟩, p, k, rfl, hp, hc, rfl⟩ q
  have q' : RtO B Q _ := q
  have hl : ks.length ≤ 1000 := hc.lk
  dsimp only [Ch.e]
  k_updF
  refine at_setNA (i := 3) (ds := ks.map Kp.e) (evN_cb (xs := [.list (ks.map Kp.e)]) (by k_memK) rcN_listL) (by k_intsEnd) ?_
  k_updF
  refine at_setitemA (i := 3) (j := p) (n := (p : Int)) rfl (ev_var rfl) (ev_var rfl) (ixN_of (by rw [List.length_map]; exact hp)) (by k_intsEnd) ?_
  rw [← List.map_set]
  k_updF
  refine at_rtO (S := []) (em_fz (em_chain_of (c := ⟨ks.set p k, co⟩) (ev_var rfl) (by k_memK) (by rw [List.length_set]; omega))) rfl q'

theorem ok_at_end (T : Tx K mg) : Def P w K mg base CX0 1 "at_end" ["keeper", "deed", "last"] (spW WD K 3 R_at_end) := by
  refine mkW T.f_at_end b_at_end sc_at_end rfl fun f cdv A outer s H E hr => ⟨_, (pss_cons (ps_set (i := 3) sc_at_end.nd rfl (Or.inl rfl) (pe_op (op_addK K) (pe_ix (ix_K K) (pv 0) pe_int (fun _ _ => rfl)) (pe_lst (pa_cons (pv 1) pa_nil))))
      (pss_cons (ps_if (pt_val (pv 2))
      (pss_one (ps_ret (pe_tup (pa_cons (pv 3) (pa_cons (pe_callB (len_K K) (by rfl) T.z_len (by decide +kernel) (pa_cons (pv 3) pa_nil)) (pa_cons (pe_lst pa_nil) (pa_cons (pe_ix (ix_K K) (pv 0) pe_int (fun _ _ => rfl)) pa_nil)))))))
      pss_nil)
      (pss_one (ps_ret (pe_tup (pa_cons (pv 3) (pa_cons (pe_ix (ix_K K) (pv 0) pe_int (fun _ _ => rfl)) (pa_cons (pe_op (op_addK K) (pe_ix (ix_K K) (pv 0) pe_int (fun _ _ => rfl)) (pe_lst (pa_cons (pv 1) pa_nil))) (pa_cons (pe_ix (ix_K K) (pv 0) pe_int (fun _ _ => rfl)) pa_nil))))))))), ?_⟩
  rintro ds o B Q hl ⟨⟨l, s0, dn, up⟩, d, b, rfl, hk, rfl⟩ q
  have q' : RtOk B Q _ := q
  have h1 : l.length ≤ 1000 := hk.ll
  have h2 : dn.length ≤ 1000 := hk.ld
  dsimp only [Kp.e]
  l_intsC
  l_intsW
  · intro hb
    subst hb
    k_updF
    refine at_rt (d := (atEnd ⟨l, s0, dn, up⟩ d true).e) (ev_is (d := .tuple [.list (l.map Dd.e ++ [d.e]), .int (l.map Dd.e ++ [d.e]).length, .list [], .list (up.map .int)]) (by k_memK) ?_) rfl q'
    simp [atEnd, Kp.e]
  · intro hb
    subst hb
    k_updF
    refine at_rt (d := (atEnd ⟨l, s0, dn, up⟩ d false).e) (ev_is (d := .tuple [.list (l.map Dd.e ++ [d.e]), .int s0, .list (dn.map Dd.e ++ [d.e]), .list (up.map .int)]) (by k_memK) ?_) rfl q'
    simp [atEnd, Kp.e]

theorem ok_take (T : Tx K mg) : Def P w K mg base (L2.CX P w) 4 "take" ["chain", "deed"] (spW WO K 2 R_take) := by
  refine mkX T.f_take b_take sc_take rfl fun f cdv A outer s H E hr => ⟨_, (pss_cons (ps_if (pt_not (pt_val (pe_callD (ok_is_deed T) hr (pa_cons (pv 1) pa_nil))))
      (pss_one (ps_raise rfl (takes_of rfl rfl rfl rfl) (pmk_own PySem.F.excBase_ValueError T.x_BadDeed.1 T.g_BadDeed T.x_BadDeed.2.1 (raises_own T.x_BadDeed.2.2.1 T.x_BadDeed.2.2.2) (by exact rfl))))
      pss_nil)
      (pss_cons (ps_set (i := 2) sc_take.nd rfl (Or.inl rfl) (pe_ix (ix_K K) (pe_ix (ix_K K) (pv 0) pe_int (fun _ _ => rfl)) pe_int (fun _ _ => rfl)))
      (pss_cons (ps_setLc (i := 3) (own := [("one", 4)]) (g := gName 4) rfl sc_take.nd rfl rfl (sw_true rfl rfl rfl (by decide +kernel)) (pi_listK K (pe_ix (ix_K K) (pv 2) pe_int (fun _ _ => rfl))) (blkOk_by (own := [("one", 4)]) (N := N_take) (sc := defScope s_take) (by decide +kernel)) (fun _ _ _ _ _ => pg_name (i := 4) sc_take.nd rfl (Or.inl rfl)) (fun _ _ _ _ _ => (pts_one (pt_cmpR (op_eqK K (hu64 hr)) (pe_ix (ix_K K) (pv 4) pe_int (fun _ _ => rfl)) (pe_ix (ix_K K) (pv 1) pe_int (fun _ _ => rfl)) (nomark _)))) (fun _ _ _ _ _ => (pv 4)))
      (pss_cons (ps_if (pt_cmpR op_gt (pe_ix (ix_K K) (pv 1) pe_int (fun _ _ => rfl)) (pe_op (op_addK K) (pe_callB (len_K K) (by rfl) T.z_len (by decide +kernel) (pa_cons (pv 3) pa_nil)) pe_int) (nomark _))
      (pss_one (ps_raise rfl (takes_of rfl rfl rfl rfl) (pmk_own PySem.F.excBase_ValueError T.x_BadTurn.1 T.g_BadTurn T.x_BadTurn.2.1 (raises_own T.x_BadTurn.2.2.1 T.x_BadTurn.2.2.2) (by exact rfl))))
      pss_nil)
      (pss_cons (ps_if (pt_cmpR op_le (pe_ix (ix_K K) (pv 1) pe_int (fun _ _ => rfl)) (pe_callB (len_K K) (by rfl) T.z_len (by decide +kernel) (pa_cons (pv 3) pa_nil)) (nomark _))
      (pss_cons (ps_if (pt_cmpR (op_neK K (hu64 hr)) (pe_ix (ix_K K) (pv 3) (pe_op op_sub (pe_ix (ix_K K) (pv 1) pe_int (fun _ _ => rfl)) pe_int) (fun _ _ => rfl)) (pv 1) (nomark _))
      (pss_one (ps_raise rfl (takes_of rfl rfl rfl rfl) (pmk_own PySem.F.excBase_ValueError T.x_OtherDeed.1 T.g_OtherDeed T.x_OtherDeed.2.1 (raises_own T.x_OtherDeed.2.2.1 T.x_OtherDeed.2.2.2) (by exact rfl))))
      pss_nil)
      (pss_one (ps_ret (pe_callD (ok_chain_of T) hr (pa_cons (pe_ix (ix_K K) (pv 0) pe_int (fun _ _ => rfl)) (pa_cons (pe_ix (ix_K K) (pv 0) pe_int (fun _ _ => rfl)) pa_nil))))))
      pss_nil)
      (pss_one (ps_ret (pe_callD (ok_with_keeper T) hr (pa_cons (pv 0) (pa_cons pe_int (pa_cons (pe_callD (ok_at_end T) hr (pa_cons (pv 2) (pa_cons (pv 1) (pa_cons (pe_cmpR (op_eqK K (hu64 hr)) (pe_callB (len_K K) (by rfl) T.z_len (by decide +kernel) (pa_cons (pe_ix (ix_K K) (pv 0) pe_int (fun _ _ => rfl)) pa_nil)) pe_int (nomark _)) pa_nil)))) pa_nil))))))))))), ?_⟩
  rintro ds o B Q hl ⟨k, ks, co, hc, h⟩ q
  have hk : k.ok := hc.kp k List.mem_cons_self
  have hll : k.log.length ≤ 1000 := hk.ll
  rcases h with ⟨x, rfl, hx, hd, rfl⟩ | ⟨d, hd, rfl, rfl⟩
  · k_updF
    refine at_if (b := true) (et_is (et_not (et_test (ev_is_deedB (ev_var rfl) hx hd))) rfl) (fun _ => ?_) (fun hb => by cases hb)
    exact at_xq q
  · k_updF
    refine at_if (b := false) (et_is (et_not (et_test (ev_is_deedB (ev_var rfl) hd.sz hd.isDeed))) rfl) (fun hb => by cases hb) (fun _ => ?_)
    obtain ⟨l, s0, dn, up⟩ := k
    change At B (sls _ [.tuple [.list (.tuple [.list (l.map Dd.e), .int s0, .list (dn.map Dd.e), .list (up.map .int)] :: ks.map Kp.e), coE co], .tuple [.int d.a, .int d.t, .str d.w, .str d.k, .int d.v]]) _
    have hsh : ∀ d ∈ l, d.ok := hk.dl
    have hll2 : l.length ≤ 1000 := hll
    l_intsC
    k_updF
    have hf : ((l.filter fun x => decide (x.a = d.a)).length : Nat) ≤ 1000 := Nat.le_trans (List.length_filter_le _ _) hll
    refine at_setA (d := .list ((l.filter fun x => decide (x.a = d.a)).map Dd.e)) (EvN.ev (evN_lc (j := 4) Dd.e l (fun x => decide (x.a = d.a)) Dd.e rfl (ei_list (ev_op (ev_var rfl) ev_int (rv_ixT rfl))) (sz_dec (by omega)) (fun x hx => ?_) (fun x hx _ => ev_var rfl))) (by k_intsEnd) ?_
    · exact et_test (ev_op (ev_op (ev_var rfl) ev_int (rv_ixT (by rfl))) (ev_op (ev_var rfl) ev_int (rv_ixT (by rfl))) rv_eqI)
    · unfold takeO at q
      dsimp only at q
      have hsame : ∀ x ∈ l.filter (fun x => decide (x.a = d.a)), x.ok := fun x hx => hsh x (List.mem_filter.mp hx).1
      generalize l.filter (fun x => decide (x.a = d.a)) = same at hf q hsame ⊢
      l_intsW
      · intro hb
        have h : (same.length : Int) + 1 < d.t := by simpa using hb
        rw [if_pos h] at q
        exact at_xq q
      · intro hb
        have h : ¬ (same.length : Int) + 1 < d.t := by simpa using hb
        rw [if_neg h] at q
        l_intsW
        · intro hb2
          have h2 : d.t ≤ same.length := by simpa using hb2
          rw [if_pos h2] at q
          have ht1 := hd.t1
          obtain ⟨c, hcs⟩ : ∃ c, same[(d.t - 1).toNat]? = some c := ⟨_, List.getElem?_eq_getElem (by omega)⟩
          have hco : c.ok := hsame c (List.mem_of_getElem? hcs)
          have hne : RvD (rNeD K) c.e d.e (.bool (!decide (c = d))) := by
            have h := rv_neD (K := K) hco.shp.sh hd.shp.sh
            rw [eqv_dd] at h; exact h
          have hat : atI (same.map Dd.e) (d.t - 1) = some c.e := atI_map (f := Dd.e) (atI_int (by omega) hcs)
          k_updF
          refine at_if (b := !decide (c = d)) (et_test (ev_op (ev_op (ev_var rfl) (ev_op (ev_op (ev_var rfl) ev_int (rv_ixT rfl)) ev_int rv_sub) (rv_ixL hat)) (ev_var rfl) hne)) (fun hb3 => ?_) (fun hb3 => ?_)
          · have hcd : c ≠ d := by simpa using hb3
            rw [if_pos (by rw [hcs]; exact fun z => hcd (Option.some.inj z))] at q
            exact at_xq q
          · have hcd : c = d := by simpa using hb3
            rw [if_neg (by rw [hcs, hcd]; exact fun z => z rfl)] at q
            have q' : RtO B Q _ := q
            k_updF
            exact at_rtO (S := []) (em_chain_of (c := ⟨⟨l, s0, dn, up⟩ :: ks, co⟩) (ev_op (ev_var rfl) ev_int (rv_ixT rfl)) (ev_op (ev_var rfl) ev_int (rv_ixT rfl)) (by have := hc.lk; omega)) rfl q'
        · intro hb2
          have h2 : ¬ d.t ≤ same.length := by simpa using hb2
          rw [if_neg h2] at q
          have q' : RtO B Q _ := q
          have hz := hc.lk
          k_updF
          have hb0 : (decide ((((Kp.mk l s0 dn up :: ks).map Kp.e).length : Int) = 1)) = ks.isEmpty := by
            cases ks with
            | nil => rfl
            | cons a b =>
              rw [List.map_cons, List.map_cons, List.length_cons, List.length_cons]
              exact decide_eq_false (by omega)
          refine at_rtO (S := []) (em_with_keeper (c := ⟨⟨l, s0, dn, up⟩ :: ks, co⟩) (p := 0) (k := atEnd ⟨l, s0, dn, up⟩ d ks.isEmpty) (ev_var rfl) ev_int (ev_at_end (k := ⟨l, s0, dn, up⟩) (d := d) (b := ks.isEmpty) (ev_var rfl) (ev_var rfl) ?_ hk) (by simp) hc) rfl q'
          rw [← hb0]
          exact ev_op (ev_cb (ea_cons (ev_op (ev_var rfl) ev_int (rv_ixT rfl)) ea_nil) rc_lenL) ev_int rv_eqI

theorem ok__law_cell_at (T : Tx K mg) : Def P w K mg base CX0 1 "_law_cell_at" ["_law_script", "_law_k"] (spP 2 R_cell_at) := by
  refine mkP T.f__law_cell_at b__law_cell_at sc__law_cell_at rfl fun f cdv A outer s H E hr => ⟨_, (pss_cons (ps_if (pt_cmpR op_lt (pv 1) (pe_callB (len_K K) (by rfl) T.z_len (by decide +kernel) (pa_cons (pv 0) pa_nil)) (nomark _))
      (pss_one (ps_ret (pe_ix (ix_K K) (pv 0) (pv 1) (fun _ _ => rfl))))
      pss_nil)
      (pss_one (ps_ret pe_int))), ?_⟩
  rintro ds d B Q hl ⟨ns, k, rfl, h0, rfl⟩ q
  l_intsW
  · intro hb
    have hk : k.toNat < ns.length := by rw [decide_eq_true_eq, List.length_map] at hb; omega
    refine at_rt (ev_op (ev_var rfl) (ev_var rfl) (rv_ixL (atI_map (f := PyData.int) (atI_int h0 (cellAt_get hk))))) rfl q
  · intro hb
    have hk : ¬ k.toNat < ns.length := by rw [decide_eq_false_iff_not, List.length_map] at hb; omega
    kc_close
    rw [cellAt_no hk]

theorem ok__law_text (T : Tx K mg) : Def P w K mg base CX0 2 "_law_text" ["_law_script"] (spP 1 R_text) := by
  refine mkP T.f__law_text b__law_text sc__law_text rfl fun f cdv A outer s H E hr => ⟨_, (pss_cons (ps_set (i := 1) sc__law_text.nd rfl (Or.inl rfl) pe_str)
      (pss_cons (ps_for PassesOwn.never rfl (pi_range1 (by rfl) T.z_range (pa_cons (pe_op op_mod (pe_callD (ok__law_cell_at T) hr (pa_cons (pv 0) (pa_cons pe_int pa_nil))) pe_int) pa_nil)) (pg_name (i := 2) sc__law_text.nd rfl (Or.inl rfl))
      (pss_one (ps_set (i := 1) sc__law_text.nd rfl (Or.inl rfl) (pe_op (op_addK K) (pv 1) (pe_ix (ix_K K) pe_str (pe_op op_mod (pe_op (op_addK K) (pe_op op_mulU (pe_callD (ok__law_cell_at T) hr (pa_cons (pv 0) (pa_cons pe_int pa_nil))) (pe_op (op_addK K) (pv 2) pe_int)) (pe_op op_mulU (pv 2) (pv 2))) pe_int) (fun _ _ => rfl))))))
      (pss_one (ps_ret (pv 1))))), ?_⟩
  rintro ds d B Q hl ⟨ns, rfl, h63, rfl⟩ q
  have h0 := Int.emod_nonneg (cellAt ns 0) (show (13 : Int) ≠ 0 by decide)
  have h1 := Int.emod_lt_of_pos (cellAt ns 0) (show (0 : Int) < 13 by decide)
  k_updF
  refine at_setA (i := 1) (d := .str (textZ ns 0)) (ev_is ev_str rfl) (by k_intsEnd) ?_
  k_updF
  refine at_forR (n := (cellAt ns 0 % 13).toNat) (lo := 0) (fun k => [.d (scr ns), .d (.str (textZ ns k)), .un]) (ei_rng1 (ev_op (ev_cell_at (ev_var rfl) ev_int (by decide)) ev_int (rv_modP (by decide))) (by omega) (by omega)) (.same (.same (.un .nil))) (fun gb k N hk hN => ?_) ?_
  · have e0 : (0 + (k : Int)) = (k : Int) := by omega
    rw [e0]
    have hz := textZ_len ns k
    refine at_setA (i := 1) (d := .str (textZ ns (k + 1))) (ev_op (x := .str (textZ ns k)) (y := .str (signZ ns k)) (ev_var rfl) (ev_op (x := .str signsS) (y := .int (placeI ns k)) ev_str (ev_op (x := .int (cellAt ns 1 * ((k : Int) + 1) + (k : Int) * k)) (ev_op (ev_op (x := .int (cellAt ns 1)) (y := .int ((k : Int) + 1)) (ev_cell_at (ev_var rfl) ev_int (by decide)) (ev_op (x := .int k) (ev_var rfl) ev_int rv_addI) (rv_mulI (.inr ⟨by omega, by omega⟩))) (ev_op (x := .int k) (y := .int k) (ev_var rfl) (ev_var rfl) (rv_mulI (.inr ⟨by omega, by omega⟩))) rv_addI) ev_int (rv_modP (by decide))) (rv_ixS (sz_dec (by decide +kernel)) (sign_at ns k))) (rv_addS (by rw [hz]; exact sz_dec (by show k + 1 ≤ _; omega)))) (by k_intsEnd) ?_
    exact at_wk hN (.same (.same (.un .nil)))
  · k_updF
    exact at_rt (ev_var rfl) rfl q

theorem ok__law_kinds (T : Tx K mg) : Def P w K mg base CX0 1 "_law_kinds" ["_law_error"] (spG WD K 1 (R_kindsX K)) := by
  refine mkG T.f__law_kinds b__law_kinds sc__law_kinds rfl fun f cdv A outer s H E hr => ⟨_, (pss_cons (ps_set (i := 1) sc__law_kinds.nd rfl (Or.inl rfl) (pe_lst (pa_cons (pe_callB call_isO (by rfl) T.z_isinstance (by decide +kernel) (pa_cons (pv 0) (pa_cons (pe_glob (v := .ref _) (by rfl) T.g_BadDeed rfl) pa_nil))) (pa_cons (pe_callB call_isO (by rfl) T.z_isinstance (by decide +kernel) (pa_cons (pv 0) (pa_cons (pe_glob (v := .ref _) (by rfl) T.g_BadKey rfl) pa_nil))) (pa_cons (pe_callB call_isO (by rfl) T.z_isinstance (by decide +kernel) (pa_cons (pv 0) (pa_cons (pe_glob (v := .ref _) (by rfl) T.g_BadTurn rfl) pa_nil))) pa_nil)))))
      (pss_cons (ps_set (i := 1) sc__law_kinds.nd rfl (Or.inl rfl) (pe_op (op_addK K) (pv 1) (pe_lst (pa_cons (pe_callB call_isO (by rfl) T.z_isinstance (by decide +kernel) (pa_cons (pv 0) (pa_cons (pe_glob (v := .ref _) (by rfl) T.g_OtherDeed rfl) pa_nil))) (pa_cons (pe_callB call_isO (by rfl) T.z_isinstance (by decide +kernel) (pa_cons (pv 0) (pa_cons (pe_glob (v := .ref _) (by rfl) T.g_NoStep rfl) pa_nil))) (pa_cons (pe_callB call_isO (by rfl) T.z_isinstance (by decide +kernel) (pa_cons (pv 0) (pa_cons (pe_glob (v := .ref _) (by rfl) T.g_NoKeeper rfl) pa_nil))) pa_nil))))))
      (pss_cons (ps_set (i := 1) sc__law_kinds.nd rfl (Or.inl rfl) (pe_op (op_addK K) (pv 1) (pe_lst (pa_cons (pe_callB call_isO (by rfl) T.z_isinstance (by decide +kernel) (pa_cons (pv 0) (pa_cons (pe_glob (v := .ref _) (by rfl) T.g_OnlyKeeper rfl) pa_nil))) (pa_cons (pe_callB call_isO (by rfl) T.z_isinstance (by decide +kernel) (pa_cons (pv 0) (pa_cons (pe_glob (v := .ref _) (by rfl) T.g_OneComing rfl) pa_nil))) (pa_cons (pe_callB call_isO (by rfl) T.z_isinstance (by decide +kernel) (pa_cons (pv 0) (pa_cons (pe_glob (v := .ref _) (by rfl) T.g_TooMany rfl) pa_nil))) pa_nil))))))
      (pss_one (ps_ret (pe_op (op_addK K) (pv 1) (pe_lst (pa_cons (pe_callB call_isO (by rfl) T.z_isinstance (by decide +kernel) (pa_cons (pv 0) (pa_cons (pe_glob (v := .ref _) (by rfl) T.g_KeepError rfl) pa_nil))) (pa_cons (pe_callB call_isO (by rfl) T.z_isinstance (by decide +kernel) (pa_cons (pv 0) (pa_cons (pe_bltn (v := .ty "ValueError") (by rfl) T.z_ValueError (by decide +kernel) rfl) pa_nil))) pa_nil))))))))), ?_⟩
  rintro ss o B Q hl ⟨nm, hm0, rfl, rfl⟩ q
  have hm : nm ∈ XN := by
    have : ∀ y ∈ kindsN.take 9, y ∈ XN := by decide
    exact this nm hm0
  have q' : RtOk B Q (.list (kindsB nm)) := q
  have hy : ∀ y ∈ YN, PySem.W.kitOne K (.ref (He.ga K nm)) (.ref (He.ga K y)) = some (isX nm y) := fun y hy => T.cls.is nm hm y hy
  have hv := T.cls.ve nm hm
  have hC := T.cls.ex nm hm
  have i1 : ∀ {y : Str} {Γ : List Sl}, Γ[0]? = some (xvS (He.ga K nm)) → y ∈ YN → Ev (tCB (rIsO K) (tCons (tVar 0) (tCons (tC (.ref (He.ga K y))) tNil))) Γ (.bool (isX nm y)) := fun e h => ev_isO (evx_var e) hC (hy _ h)
  k_caught0
  k_updF
  refine at_setA (i := 1) (d := .list ((kindsN.take 3).map fun y => .bool (isX nm y))) (ev_lst (ea_cons (i1 rfl (by decide)) (ea_cons (i1 rfl (by decide)) (ea_cons (i1 rfl (by decide)) ea_nil))) (by k_ownIn)) (by k_intsEnd) ?_
  k_updF
  refine at_setA (i := 1) (d := .list ((kindsN.take 6).map fun y => .bool (isX nm y))) (ev_is (ev_op (x := .list ((kindsN.take 3).map fun y => .bool (isX nm y))) (ev_var rfl) (ev_lst (ea_cons (i1 rfl (by decide)) (ea_cons (i1 rfl (by decide)) (ea_cons (i1 rfl (by decide)) ea_nil))) (by k_ownIn)) (RvN.d (rvN_addL (by show 3 + 3 ≤ sizeLine; decide)))) rfl) (by k_intsEnd) ?_
  k_updF
  refine at_setA (i := 1) (d := .list ((kindsN.take 9).map fun y => .bool (isX nm y))) (ev_is (ev_op (x := .list ((kindsN.take 6).map fun y => .bool (isX nm y))) (ev_var rfl) (ev_lst (ea_cons (i1 rfl (by decide)) (ea_cons (i1 rfl (by decide)) (ea_cons (i1 rfl (by decide)) ea_nil))) (by k_ownIn)) (RvN.d (rvN_addL (by show 6 + 3 ≤ sizeLine; decide)))) rfl) (by k_intsEnd) ?_
  k_updF
  exact at_rt (ev_is (ev_op (x := .list ((kindsN.take 9).map fun y => .bool (isX nm y))) (ev_var rfl) (ev_lst (ea_cons (i1 rfl (by decide)) (ea_cons (ev_isOty (evx_var rfl) hC hv) ea_nil)) (by k_ownIn)) (RvN.d (rvN_addL (by show 9 + 2 ≤ sizeLine; decide)))) rfl) rfl q'

theorem ok__law_met (T : Tx K mg) : Def P w K mg base CX0 5 "_law_met" ["_law_script"] (spXr 1 (R_met K)) := by
  refine mkXr T.f__law_met b__law_met sc__law_met rfl fun f cdv A outer s H E hr => ⟨_, (pss_cons (ps_set (i := 1) sc__law_met.nd rfl (Or.inl rfl) pe_non)
      (pss_cons (ps_try_keep (i := 2) rfl rfl rfl sc__law_met.nd rfl rfl ⟨by rfl, by decide, Or.inl T.g_KeepError⟩ takes0 (fun W pn xe tk po => (pss_one (ps_expr (pe_callDS (ok_take T) hr tk (pa_cons (pe_callDS (ok_begun T) hr tk (pa_cons pe_int pa_nil)) (pa_cons (pe_tup (pa_cons (pe_op (op_addK K) pe_int (pe_op op_mod (pe_callD (ok__law_cell_at T) hr (pa_cons (pv 0) (pa_cons pe_int pa_nil))) (pe_op op_pow pe_int pe_int))) (pa_cons pe_int (pa_cons pe_str (pa_cons pe_str (pa_cons pe_int pa_nil)))))) pa_nil)))))) (fun a oe cls d pn hz hf => pss_cls (K := K) (cls := cls) (d := d) (names := XN) (fun nm hm e1 e2 => (pss_one (ps_set (i := 1) sc__law_met.nd rfl (Or.inl rfl) (pv 2))))))
      (pss_one (ps_ret (pv 1))))), ?_⟩
  rintro ds D B Q hl ⟨ns, rfl, h63, rfl⟩ q
  have hm : PySem.W.exmOne K (.ref (He.ga K "BadDeed")) (.ref (He.ga K "KeepError")) = some true := by
    rw [T.cls.em "BadDeed" (by decide) "KeepError" (by decide)]
    unfold isX
    rw [decide_eq_true (p := ("KeepError" : Str) = "KeepError") rfl, Bool.or_true]
  have h0 := Int.emod_nonneg (cellAt ns 2) (show (10 ^ Int.toNat 9 : Int) ≠ 0 by decide)
  have eb : begunO 1 = .ok (Ch.mk [nilK] none).e := by unfold begunO; rw [if_neg (by decide)]; rfl
  have hRb : R_begun [.int 1] (.ok (Ch.mk [nilK] none).e) := ⟨1, rfl, eb.symm⟩
  have hno : isDeedD (.tuple [.int (10 + cellAt ns 2 % 10 ^ Int.toNat 9), .int 1, .str "put", .str "a", .int 1]) = false := by
    show (decide (0 ≤ 10 + cellAt ns 2 % 10 ^ Int.toNat 9) && decide (10 + cellAt ns 2 % 10 ^ Int.toNat 9 ≤ 9) && _ && _ && _) = false
    rw [decide_eq_false (show ¬ 10 + cellAt ns 2 % 10 ^ Int.toNat 9 ≤ 9 by omega)]
    simp
  have hck : (Ch.mk [nilK] none).ok := ⟨by show 1 ≤ 1000; decide, fun k hk => by
    rw [List.mem_singleton.mp hk]
    exact ⟨Nat.zero_le _, Nat.zero_le _, Nat.zero_le _, (fun d hd => by cases hd), fun d hd => by cases hd⟩, fun l e => by cases e⟩
  have hsz : DeedSz (.tuple [.int (10 + cellAt ns 2 % 10 ^ Int.toNat 9), .int 1, .str "put", .str "a", .int 1]) := fun x hx => by
    simp only [List.mem_cons, List.not_mem_nil, or_false] at hx
    rcases hx with rfl | rfl | rfl | rfl | rfl
    · exact ⟨trivial, trivial⟩
    · exact ⟨trivial, trivial⟩
    · exact ⟨by show _ ≤ 100000; decide +kernel, by show PyData.strOk _ = true; decide +kernel⟩
    · exact ⟨by show _ ≤ 100000; decide +kernel, by show PyData.strOk _ = true; decide +kernel⟩
    · exact ⟨trivial, trivial⟩
  k_updF
  refine at_setA (i := 1) (d := .none) ev_non (by k_intsEnd) ?_
  k_updF
  refine at_rzDrop (rz_callWS (c := "BadDeed") (ea_cons (EvM.ev (em_callWS (ea_cons ev_int ea_nil) rfl hRb)) (ea_cons (ev_tup (ea_cons (ev_op (x := .int 10) (y := .int (cellAt ns 2 % 10 ^ Int.toNat 9)) ev_int (ev_op (y := .int (10 ^ Int.toNat 9)) (ev_cell_at (ev_var rfl) ev_int (by decide)) (by k_memK) (rv_modP (by decide))) rv_addI) (ea_cons ev_int (ea_cons ev_str (ea_cons ev_str (ea_cons ev_int ea_nil))))) (by k_ownIn)) ea_nil)) rfl ⟨nilK, [], none, hck, .inl ⟨_, rfl, hsz, hno, rfl⟩⟩) (at_wKeep hm fun a => ?_)
  refine at_cls (nm := "BadDeed") (by decide) ?_
  refine at_setEx (i := 1) (j := 2) rfl (by k_intsEnd) ?_
  refine at_kept (i := 2) (j := 1) (D := He.ga K "BadDeed") rfl (by decide) rfl ?_
  exact at_rtX (evx_var rfl) q

theorem ok_law (T : Tx K mg) (hL : Has K mg "law" s_law) : Def P w K mg base CX0 6 "law" ["_law_script"] (spP 1 R_law) := by
  refine mkP hL b_law sc_law rfl fun f cdv A outer s H E hr => ⟨_, (pss_cons (ps_set (i := 1) sc_law.nd rfl (Or.inl rfl) (pe_callD (ok__law_text T) hr (pa_cons (pv 0) pa_nil)))
      (pss_cons (ps_set (i := 2) sc_law.nd rfl (Or.inl rfl) (pe_lst (pa_cons (pe_exc1 PySem.F.excBase_ValueError T.x_BadDeed.1 T.g_BadDeed T.x_BadDeed.2.1 (by exact rfl) (pv 1)) (pa_cons (pe_exc1 PySem.F.excBase_ValueError T.x_BadKey.1 T.g_BadKey T.x_BadKey.2.1 (by exact rfl) (pv 1)) (pa_cons (pe_exc1 PySem.F.excBase_ValueError T.x_BadTurn.1 T.g_BadTurn T.x_BadTurn.2.1 (by exact rfl) (pv 1)) (pa_cons (pe_exc1 PySem.F.excBase_ValueError T.x_OtherDeed.1 T.g_OtherDeed T.x_OtherDeed.2.1 (by exact rfl) (pv 1)) (pa_cons (pe_exc1 PySem.F.excBase_ValueError T.x_NoStep.1 T.g_NoStep T.x_NoStep.2.1 (by exact rfl) (pv 1)) (pa_cons (pe_exc1 PySem.F.excBase_ValueError T.x_NoKeeper.1 T.g_NoKeeper T.x_NoKeeper.2.1 (by exact rfl) (pv 1)) pa_nil))))))))
      (pss_cons (ps_set (i := 2) sc_law.nd rfl (Or.inl rfl) (pe_op (op_addK K) (pv 2) (pe_lst (pa_cons (pe_exc1 PySem.F.excBase_ValueError T.x_OnlyKeeper.1 T.g_OnlyKeeper T.x_OnlyKeeper.2.1 (by exact rfl) (pv 1)) (pa_cons (pe_exc1 PySem.F.excBase_ValueError T.x_OneComing.1 T.g_OneComing T.x_OneComing.2.1 (by exact rfl) (pv 1)) (pa_cons (pe_exc1 PySem.F.excBase_ValueError T.x_TooMany.1 T.g_TooMany T.x_TooMany.2.1 (by exact rfl) (pv 1)) pa_nil))))))
      (pss_cons (ps_for PassesOwn.never rfl (pi_range1 (by rfl) T.z_range (pa_cons pe_int pa_nil)) (pg_name (i := 3) sc_law.nd rfl (Or.inr rfl))
      (pss_one (ps_if (pt_cmpR (op_neK K (hu64 hr)) (pe_callD (ok__law_kinds T) hr (pa_cons (pe_ix (ix_K K) (pv 2) (pv 3) (fun _ _ => rfl)) pa_nil)) (pe_op (op_addK K) (pe_lc (own := [("_law_j", 4)]) (g := gName 4) (by rfl) sc_law.nd (pi_range1 (by rfl) T.z_range (pa_cons pe_int pa_nil)) (blkOk_by (own := [("_law_j", 4)]) (N := N_law) (sc := defScope s_law) (by decide +kernel)) (fun _ _ _ _ _ => pg_name (i := 4) sc_law.nd rfl (Or.inl rfl)) (fun _ _ _ _ _ => pts_nil) (fun _ _ _ _ _ => (pe_cmpR (op_eqK K (hu64 hr)) (pv 4) (pv 3) (nomark _)))) (pe_lst (pa_cons pe_bl (pa_cons pe_bl pa_nil)))) (nomark _))
      (pss_one (ps_ret pe_bl))
      pss_nil)))
      (pss_one (ps_ret (pe_cmpR (op_eqK K (hu64 hr)) (pe_callD (ok__law_kinds T) hr (pa_cons (pe_callD (ok__law_met T) hr (pa_cons (pv 0) pa_nil)) pa_nil)) (pe_callD (ok__law_kinds T) hr (pa_cons (pe_ix (ix_K K) (pv 2) pe_int (fun _ _ => rfl)) pa_nil)) (nomark _)))))))), ?_⟩
  rintro ds d B Q hl ⟨ns, rfl, h63, rfl⟩ q
  k_updF
  refine at_setA (i := 1) (d := .str (textG ns)) (ev_call (ea_cons (ev_var rfl) ea_nil) rfl ⟨ns, rfl, h63, rfl⟩) (by k_intsEnd) ?_
  k_updF
  refine at_setXL (i := 2) (Ds := (kindsN.take 6).map (He.ga K)) (exs_cons (evx_make (ev_var rfl)) (exs_cons (evx_make (ev_var rfl)) (exs_cons (evx_make (ev_var rfl)) (exs_cons (evx_make (ev_var rfl)) (exs_cons (evx_make (ev_var rfl)) (exs_cons (evx_make (ev_var rfl)) exs_nil)))))) (by show 6 ≤ sizeLine; decide) (by k_intsEnd) ?_
  k_updF
  refine at_catXL (i := 2) (j := 2) (Ds := (kindsN.take 6).map (He.ga K)) (Es := [He.ga K "OnlyKeeper", He.ga K "OneComing", He.ga K "TooMany"]) rfl (exs_cons (evx_make (ev_var rfl)) (exs_cons (evx_make (ev_var rfl)) (exs_cons (evx_make (ev_var rfl)) exs_nil))) (by show 6 + 3 ≤ sizeLine; decide) (by k_intsEnd) ?_
  change At B [_, _, xlS ((kindsN.take 9).map (He.ga K)), _, _] _
  have hk : ∀ k, k < 9 → ((kindsN.take 9).map (He.ga K))[k]? = some (He.ga K ((kindsN.take 9).getD k "")) ∧ (kindsN.take 9).getD k "" ∈ kindsN.take 9 := fun k h => by
    have hl : k < (kindsN.take 9).length := h
    rw [List.getElem?_map, List.getD_eq_getElem?_getD, List.getElem?_eq_getElem hl]
    exact ⟨rfl, List.getElem_mem hl⟩
  have hsh : ∀ nm, Shp 1 (.list (kindsB nm)) := fun nm => shp_list (n := 0) fun x hx => by
    unfold kindsB at hx
    rcases List.mem_append.mp hx with hx | hx
    · obtain ⟨y, _, rfl⟩ := List.mem_map.mp hx
      exact shp_bool
    · rw [List.mem_singleton.mp hx]; exact shp_bool
  k_updF
  refine at_forR (n := 9) (lo := 0) (fun _ => [.d (scr ns), .d (.str (textG ns)), xlS ((kindsN.take 9).map (He.ga K)), .un, .un]) (ei_rng1 ev_int (by decide) (by decide)) (.same (.same (.same (.un (.un .nil))))) (fun gb k N hk9 hN => ?_) ?_
  · have e0 : (0 + (k : Int)) = (k : Int) := by omega
    rw [e0]
    obtain ⟨h1, h2⟩ := hk k hk9
    k_updF
    refine at_if (b := false) (et_test (ev_op (y := .list (kindsB ((kindsN.take 9).getD k ""))) (ev_callGx (evx_ix rfl (ev_var rfl) h1) ⟨_, h2, rfl, rfl⟩) (ev_is (ev_op (x := .list ((List.range 9).map fun j => .bool (decide (j = k)))) (y := .list [.bool true, .bool true]) (EvN.ev (evN_lcm (j := 4) (fun j : Nat => .int (0 + j)) (List.range 9) (fun j => .bool (decide (j = k))) rfl (ei_rng1 ev_int (by decide) (by decide)) (by decide) fun j hj => ev_is (ev_op (x := .int (0 + j)) (ev_var rfl) (ev_var rfl) rv_eqI) (congrArg PyData.bool (decide_eq_decide.mpr (by omega))))) (ev_lst (ea_cons ev_bl (ea_cons ev_bl ea_nil)) (by k_ownIn)) (RvN.d (rvN_addL (by rw [List.length_map, List.length_range]; show 9 + 2 ≤ sizeLine; decide)))) (congrArg PyData.list (kinds_at k hk9).symm)) (rv_neSelf ⟨1, by decide, hsh _⟩))) (fun hb => by cases hb) (fun _ => ?_)
    exact at_wk hN (.same (.same (.same (.un (.un .nil)))))
  · k_updF
    obtain ⟨h1, h2⟩ := hk 0 (by decide)
    exact at_rt (ev_op (x := .list (kindsB "BadDeed")) (y := .list (kindsB "BadDeed")) (ev_callGx (evx_call (ea_cons (ev_var rfl) ea_nil) rfl ⟨ns, rfl, h63, rfl⟩) ⟨"BadDeed", by decide, rfl, rfl⟩) (ev_callGx (evx_ix (k := 0) rfl ev_int h1) ⟨"BadDeed", h2, rfl, rfl⟩) (rv_eqSelf ⟨1, by decide, hsh _⟩)) rfl q

end
/-! ### the head -/
def dd (x : Str) (i : Nat) : He.DefD := ⟨(x, none), x, x, defArgs (topS i), defBody (topS i), defScope (topS i), [], []⟩
def fnL : List He.DefD := ([dd "is_number" 2, dd "is_key" 3, dd "is_deed" 4, dd "begun" 18, dd "keeper_of" 19, dd "chain_of" 20, dd "with_keeper" 21, dd "at_end" 22, dd "take" 23, dd "_law_cell_at" 25, dd "_law_text" 26, dd "_law_kinds" 27, dd "_law_met" 28, dd "law" 29] : List He.DefD)
def faL : List He.Fa := ([.glo "is_number", .glo "is_key", .glo "is_deed", .glo "begun", .glo "keeper_of", .glo "chain_of", .glo "with_keeper", .glo "at_end", .glo "take", .glo "_law_cell_at", .glo "_law_text", .glo "_law_kinds", .glo "_law_met", .glo "law", .glo "KeepError", .glo "BadDeed", .glo "BadKey", .glo "BadTurn", .glo "OtherDeed", .glo "NoStep", .glo "NoKeeper", .glo "OnlyKeeper", .glo "OneComing", .glo "TooMany", .free "ValueError", .free "all", .free "bool", .free "int", .free "isinstance", .free "len"] : List He.Fa) ++ (([.free "list", .free "range", .free "str", .free "tuple", .str "LETTERS" "abcdefghijklmnopqrstuvwxyz", .int "MOST_KEEPERS" 9, .exc "KeepError", .exc "BadDeed", .exc "BadKey", .exc "BadTurn", .exc "OtherDeed", .exc "NoStep", .exc "NoKeeper", .exc "OnlyKeeper", .exc "OneComing", .exc "TooMany"] : List He.Fa))
def exK (K : PySem.W.Frag) : Bool := (K.all fun q => !(q.2.cls == .type "list")) && clsB K XN YN
abbrev Rw : PySem.W.OpenRow := PySem.W.OpenLaw.row PySem.Challenge.rw_chainkeep_k15_refusals_made
abbrev hkL : PySem.W.Hook := He.hookX 4 faL fnL [] [] exK
def obL (s : PySem.W.SharedT) : He.AlX := He.obsX 4 faL fnL [] [] exK (HandSHeadRun.getT s)
theorem obL_eq (s : PySem.W.SharedT) : obL s = hkL.obs s.abs := He.obsX_eq (HandSHeadRun.getT_eq s)
def nmL : List Str := (["is_number", "is_key", "is_deed", "begun", "keeper_of", "chain_of", "with_keeper", "at_end", "take", "_law_cell_at", "_law_text", "_law_kinds", "_law_met", "KeepError", "BadDeed", "BadKey", "BadTurn", "OtherDeed", "NoStep", "NoKeeper", "OnlyKeeper", "OneComing", "TooMany", "LETTERS", "MOST_KEEPERS"] : List Str)
theorem runL (w : World) : HandSHeadRun.RunEq Rw (PySem.W.view Rw.prog [29]) hkL obL 6000 nmL w := by
  intro os
  kernel_rfl
section
variable {K : PySem.W.Frag} {h : Heap} {mg : Str → Option Value}
theorem hasL (X : K.In h) (G : h.Ns mainGlobals mg) {f : He.Fa} {x : Str} {i : Nat} (hf : ∃ fd, FunD K (dd x i).name (dd x i).qual (dd x i).params (dd x i).body (dd x i).scope ((dd x i).dvs K) ((dd x i).kws K) (He.fAd K (dd x i).at_) fd) (hg : mg x = some (.ref (He.ga K x))) : Has K mg x (topS i) := by
  obtain ⟨fd, F⟩ := hf
  exact ⟨_, fd, F, hg⟩
theorem txL (X : K.In h) (G : h.Ns mainGlobals mg) (c : He.SaysD faL fnL K) (m : exK K = true) : Tx K mg where
  z_ValueError := He.free_ok X G (c.fact 24 (f := .free "ValueError") rfl)
  z_all := He.free_ok X G (c.fact 25 (f := .free "all") rfl)
  z_bool := He.free_ok X G (c.fact 26 (f := .free "bool") rfl)
  z_int := He.free_ok X G (c.fact 27 (f := .free "int") rfl)
  z_isinstance := He.free_ok X G (c.fact 28 (f := .free "isinstance") rfl)
  z_len := He.free_ok X G (c.fact 29 (f := .free "len") rfl)
  z_list := He.free_ok X G (c.fact 30 (f := .free "list") rfl)
  z_range := He.free_ok X G (c.fact 31 (f := .free "range") rfl)
  z_str := He.free_ok X G (c.fact 32 (f := .free "str") rfl)
  z_tuple := He.free_ok X G (c.fact 33 (f := .free "tuple") rfl)
  c_LETTERS := He.str_ok X G (c.fact 34 (f := .str "LETTERS" "abcdefghijklmnopqrstuvwxyz") rfl)
  c_MOST_KEEPERS := He.int_ok X G (c.fact 35 (f := .int "MOST_KEEPERS" 9) rfl)
  f_is_number := hasL (f := .glo "is_number") X G (c.def_ 0 (d := dd "is_number" 2) rfl) (He.glo_ok X G (c.fact 0 (f := .glo "is_number") rfl))
  f_is_key := hasL (f := .glo "is_key") X G (c.def_ 1 (d := dd "is_key" 3) rfl) (He.glo_ok X G (c.fact 1 (f := .glo "is_key") rfl))
  f_is_deed := hasL (f := .glo "is_deed") X G (c.def_ 2 (d := dd "is_deed" 4) rfl) (He.glo_ok X G (c.fact 2 (f := .glo "is_deed") rfl))
  f_begun := hasL (f := .glo "begun") X G (c.def_ 3 (d := dd "begun" 18) rfl) (He.glo_ok X G (c.fact 3 (f := .glo "begun") rfl))
  f_keeper_of := hasL (f := .glo "keeper_of") X G (c.def_ 4 (d := dd "keeper_of" 19) rfl) (He.glo_ok X G (c.fact 4 (f := .glo "keeper_of") rfl))
  f_chain_of := hasL (f := .glo "chain_of") X G (c.def_ 5 (d := dd "chain_of" 20) rfl) (He.glo_ok X G (c.fact 5 (f := .glo "chain_of") rfl))
  f_with_keeper := hasL (f := .glo "with_keeper") X G (c.def_ 6 (d := dd "with_keeper" 21) rfl) (He.glo_ok X G (c.fact 6 (f := .glo "with_keeper") rfl))
  f_at_end := hasL (f := .glo "at_end") X G (c.def_ 7 (d := dd "at_end" 22) rfl) (He.glo_ok X G (c.fact 7 (f := .glo "at_end") rfl))
  f_take := hasL (f := .glo "take") X G (c.def_ 8 (d := dd "take" 23) rfl) (He.glo_ok X G (c.fact 8 (f := .glo "take") rfl))
  f__law_cell_at := hasL (f := .glo "_law_cell_at") X G (c.def_ 9 (d := dd "_law_cell_at" 25) rfl) (He.glo_ok X G (c.fact 9 (f := .glo "_law_cell_at") rfl))
  f__law_text := hasL (f := .glo "_law_text") X G (c.def_ 10 (d := dd "_law_text" 26) rfl) (He.glo_ok X G (c.fact 10 (f := .glo "_law_text") rfl))
  f__law_kinds := hasL (f := .glo "_law_kinds") X G (c.def_ 11 (d := dd "_law_kinds" 27) rfl) (He.glo_ok X G (c.fact 11 (f := .glo "_law_kinds") rfl))
  f__law_met := hasL (f := .glo "_law_met") X G (c.def_ 12 (d := dd "_law_met" 28) rfl) (He.glo_ok X G (c.fact 12 (f := .glo "_law_met") rfl))
  g_KeepError := He.glo_ok X G (c.fact 14 (f := .glo "KeepError") rfl)
  x_KeepError := He.exc_ok (c.fact 36 (f := .exc "KeepError") rfl)
  g_BadDeed := He.glo_ok X G (c.fact 15 (f := .glo "BadDeed") rfl)
  x_BadDeed := He.exc_ok (c.fact 37 (f := .exc "BadDeed") rfl)
  g_BadKey := He.glo_ok X G (c.fact 16 (f := .glo "BadKey") rfl)
  x_BadKey := He.exc_ok (c.fact 38 (f := .exc "BadKey") rfl)
  g_BadTurn := He.glo_ok X G (c.fact 17 (f := .glo "BadTurn") rfl)
  x_BadTurn := He.exc_ok (c.fact 39 (f := .exc "BadTurn") rfl)
  g_OtherDeed := He.glo_ok X G (c.fact 18 (f := .glo "OtherDeed") rfl)
  x_OtherDeed := He.exc_ok (c.fact 40 (f := .exc "OtherDeed") rfl)
  g_NoStep := He.glo_ok X G (c.fact 19 (f := .glo "NoStep") rfl)
  x_NoStep := He.exc_ok (c.fact 41 (f := .exc "NoStep") rfl)
  g_NoKeeper := He.glo_ok X G (c.fact 20 (f := .glo "NoKeeper") rfl)
  x_NoKeeper := He.exc_ok (c.fact 42 (f := .exc "NoKeeper") rfl)
  g_OnlyKeeper := He.glo_ok X G (c.fact 21 (f := .glo "OnlyKeeper") rfl)
  x_OnlyKeeper := He.exc_ok (c.fact 43 (f := .exc "OnlyKeeper") rfl)
  g_OneComing := He.glo_ok X G (c.fact 22 (f := .glo "OneComing") rfl)
  x_OneComing := He.exc_ok (c.fact 44 (f := .exc "OneComing") rfl)
  g_TooMany := He.glo_ok X G (c.fact 23 (f := .glo "TooMany") rfl)
  x_TooMany := He.exc_ok (c.fact 45 (f := .exc "TooMany") rfl)
  cls := clsB_ok (Bool.and_eq_true_iff.mp m).2
theorem lawL (X : K.In h) (G : h.Ns mainGlobals mg) (c : He.SaysD faL fnL K) : Has K mg "law" s_law := hasL (f := .glo "law") X G (c.def_ 13 (d := dd "law" 29) rfl) (He.glo_ok X G (c.fact 13 (f := .glo "law") rfl))
theorem rdL (m : exK K = true) {H : Hp} {a : Addr} {xs : List V} (s : SqL K H a xs) : Rd H a (.lst xs) := by
  rcases s with s | ⟨o, its, n, hk, hc, _⟩
  · exact s
  · exfalso
    have h0 : (K.all fun q => !(q.2.cls == .type "list")) = true := by
      first | exact m | exact (Bool.and_eq_true_iff.mp m).1 | (unfold exK at m; simp only [Bool.and_eq_true] at m; simp only [m])
    have h1 := List.all_eq_true.mp h0 _ (He.lookup_mem hk)
    rw [hc] at h1
    revert h1
    decide
end
end Ck
open PySem PySem.W PySem.Calls PyProof.Rows
set_option maxRecDepth 100000 in
set_option maxHeartbeats 8000000 in
theorem PySem.Challenge.cw_chainkeep_k15_refusals_made_holds : PySem.Challenge.rw_chainkeep_k15_refusals_made.Holds := by
  w_on; o_law
  refine HandSHeadRun.head_any (r := OpenLaw.row PySem.Challenge.rw_chainkeep_k15_refusals_made) (q := view (OpenLaw.row PySem.Challenge.rw_chainkeep_k15_refusals_made).prog [29]) (H := Ck.hkL) (ob := Ck.obL) (M := 6000) (loose := Ck.nmL) (d := HandSHeadRun.topDef (OpenLaw.row PySem.Challenge.rw_chainkeep_k15_refusals_made).prog 29) (kwd := []) Ck.obL_eq
    (by kernel_rfl) (fun s => by kernel_rfl) Ck.runL (by kernel_rfl) (by kernel_rfl) (by kernel_rfl) (by rfl) (by first | assumption | decide +kernel) (by decide +kernel) ⟨rfl, rfl, rfl, rfl, rfl, by decide +kernel⟩ ?hw ?hc
  case hw => w_witness2
  case hc =>
    refine L2.walk_ofE (l := PySem.Challenge.rw_chainkeep_k15_refusals_made) (n := 63) (k := 6) (x := "_law_script") (CX := L2.CX0) rfl (by decide) (by kernel_rfl) ⟨rfl, by decide, by decide⟩ ?F (fun _ _ _ _ z => z)
    intro w mg fa h Y G hmg0
    obtain ⟨K, KX, c⟩ := Y
    have hmg : mg ("law" : PySem.Str) = some (.ref fa) := by
      have e : (HandSHeadRun.topDef (OpenLaw.row PySem.Challenge.rw_chainkeep_k15_refusals_made).prog 29).name = ("law" : PySem.Str) := by kernel_rfl
      rw [← e]
      exact hmg0
    have T := Ck.txL KX G c.t.d c.more
    obtain ⟨f, fd, F, g⟩ := Ck.lawL KX G c.t.d
    have e := hmg.symm.trans g
    cases e
    refine ⟨K, fd, Ck.spP 1 Ck.R_law, KX, fun s v => L2.FunD.bindsA F Ck.b_law s [v] rfl, fun H a ns hl _ hS => ?_, fun base _ _ => ?_⟩
    · exact ⟨[Ck.scr ns], .bool true, H, Ck.Ex.rfl' H, .cons (.lst (Ck.rdL c.more hS) (Ck.Rps.ofInts ns)) .nil, rfl, ⟨ns, rfl, hl, rfl⟩, fun v G' H' _ r => by cases r; rfl⟩
    · obtain ⟨f2, fd2, g2, _, _, F2, _, _, _, lk2⟩ := (Ck.ok_law T ⟨_, fd, F, g⟩ : Ck.Def (PySem.Challenge.rw_chainkeep_k15_refusals_made).prog w K mg base L2.CX0 6 "law" ["_law_script"] (Ck.spP 1 Ck.R_law))
      have e2 := g.symm.trans g2
      cases e2
      obtain ⟨_, _, _, _, _, _, _, _, _, _, _, lk, _⟩ := F.ex
      have e3 := lk.symm.trans lk2
      cases e3
      exact F2
